import PyProof.Rows.All
import HandS.ForMost
import HandS.Exc
import HandS.ExcOwn
import HandS.TryOnly
import HandS.TryMany
import HandS.CallSlots
import HandS.ExcCtx
import HandS.HotCalls
import HandS.IsInst
import HandS.Style
import HandS.TupMul
import HandS.Zip
import PyProof.Draws
import HandS.DeepEq
import PyProof.NeKinds
import HandS.WideBits
import HandS.Deep
import HandS.TupAny
import HandS.RevRange
import HandS.WordsExc
import HandS.More
import HandS.Defaults
import HandS.ExcIs
import HandS.HeadHook1
import HandS.RaiseMore
import HandS.Dict
import HandS.Text
import HandS.Replace
import PyProof.StrCalls6
import PyProof.FactsAll.str_6
import HandS.SetFor
import KE.DataMinMax
import KE.GoesMore
import KE.GoesZip
import HandS.EndBits
import HandS.Head0
import HandS.Head1
import HandS.Head2
import HandS.HeadEnd
import HandS.HeadHook2
import KE.BitLaws
import KE.OsArith
import KE.RegMulBits
import PySem.Challenge.RW_cellfolio_k08_whole_masks_and_pictures
set_option Elab.async false
set_option linter.all false
set_option maxRecDepth 100000
set_option maxHeartbeats 4000000
namespace Sy
open PySem PySem.Spec PyProof.Rows L2
abbrev SSt := L2.St

/-! own values: lists, dicts, instances are places in an own heap -/
inductive W where
  | non | bl (b : Bool) | int (i : Int) | str (x : Str) | tup (xs : List W) | loc (n : Nat) | ty (n : String) | cls (c : Nat) | frl (xs : List W) | exn (c : Nat) (a : Addr)

abbrev GK := List L2.Key
inductive GO where
  | lst (xs : List W) | dK (kvs : List (L2.Key × W)) | dT (kvs : List (GK × W)) | ins (c : Nat) (fs : List (Str × W))
abbrev GH := List GO
abbrev Sl := List (Option W)

inductive R (α : Type) where
  | ok (a : α) (G : GH) | ex (c : Nat) (fs : List (Str × W)) (G : GH) | bad

def R.bind {α β : Type} : R α → (α → GH → R β) → R β
  | .ok a G, k => k a G
  | .ex c fs G, _ => .ex c fs G
  | .bad, _ => .bad
@[simp] theorem R.bind_ok {α β : Type} (a : α) (G : GH) (k : α → GH → R β) : (R.ok a G).bind k = k a G := (rfl)
@[simp] theorem R.bind_ex {α β : Type} (c : Nat) (fs) (G : GH) (k : α → GH → R β) : (R.ex c fs G : R α).bind k = .ex c fs G := (rfl)
@[simp] theorem R.bind_bad {α β : Type} (k : α → GH → R β) : (R.bad : R α).bind k = .bad := (rfl)

/-- a value, or a list that nobody holds yet -/
inductive T where
  | val (w : W) | tmp (ws : List W)

/-- what never changes where it stands -/
def isStat : HO → Bool
  | .tup _ => true
  | .frz _ _ => true
  | _ => false
def Stay (H H' : Hp) : Prop := ∀ a u, isStat u = true → H a = some u → H' a = some u
theorem Stay.refl {H : Hp} : Stay H H := fun _ _ _ h => h
theorem Stay.trans {H H1 H2 : Hp} (a : Stay H H1) (b : Stay H1 H2) : Stay H H2 := fun x u s h => b x u s (a x u s h)
/-- a list that is locked for good, or written -/
def FzL (K : PySem.W.Frag) (H : Hp) (a : Addr) (xs : List V) : Prop := (∃ o, H a = some (.frz o (.lst xs))) ∨
  ∃ (o : Obj) (its : Array Value) (n : Nat), K.lookup a = some o ∧ o.cls = .type "list" ∧ o.dict = none ∧ o.data = .seq its n ∧ its.size ≤ sizeLine ∧ Vals xs its.toList
theorem FzL.sq {K : PySem.W.Frag} {H : Hp} {a : Addr} {xs : List V} (h : FzL K H a xs) : SqL K H a xs := by
  rcases h with ⟨o, h⟩ | h
  · exact .inl (.inr ⟨o, h⟩)
  · exact .inr h
theorem Stay.fz {K : PySem.W.Frag} {H H' : Hp} (t : Stay H H') {a : Addr} {xs : List V} (h : FzL K H a xs) : FzL K H' a xs := by
  rcases h with ⟨o, h⟩ | h
  · exact .inl ⟨o, t _ _ rfl h⟩
  · exact .inr h
theorem Stay.sqT {K : PySem.W.Frag} {H H' : Hp} (t : Stay H H') {a : Addr} {xs : List V} (h : SqT K H a xs) : SqT K H' a xs := by
  rcases h with h | h
  · rcases h with h | ⟨o, h⟩
    · exact .inl (.inl (t _ _ rfl h))
    · exact .inl (.inr ⟨o, t _ _ rfl h⟩)
  · exact .inr h
theorem Stay.laid {H : Hp} {p : Addr} {o : HO} (hp : H p = none) : Stay H (upd H p o) := fun a u _ h => by
  rw [upd_ne (ne_of_none h hp)]; exact h
theorem Stay.put {H : Hp} {p : Addr} {o : HO} (hp : ∀ u, H p = some u → isStat u = false) : Stay H (upd H p o) := fun a u s h => by
  have ne : a ≠ p := fun e => by subst e; rw [hp u h] at s; cases s
  rw [upd_ne ne]; exact h
theorem ns_lst {H : Hp} {p : Addr} {xs : List V} (h : H p = some (.lst xs)) : ∀ u, H p = some u → isStat u = false := fun u e => by
  rw [h] at e; cases e; rfl
/-! the relation to the layer's values -/
section
variable (K : PySem.W.Frag) (ca : Nat → Addr)
inductive RelW (ρ : List Addr) (H : Hp) : V → W → Prop
  | non : RelW ρ H .non .non
  | bl (b : Bool) : RelW ρ H (.bl b) (.bl b)
  | int (i : Int) : RelW ρ H (.int i) (.int i)
  | str (x : Str) : RelW ρ H (.str x) (.str x)
  | ty (n : String) : RelW ρ H (.ty n) (.ty n)
  | cls (c : Nat) : RelW ρ H (.ref (ca c)) (.cls c)
  | exn (c : Nat) (a : Addr) : RelW ρ H (.ref a) (.exn c a)
  | loc {n : Nat} {a : Addr} : ρ[n]? = some a → RelW ρ H (.ref a) (.loc n)
  | tup {a : Addr} {vs : List V} {ws : List W} : SqT K H a vs → vs.length = ws.length →
      (∀ (i : Nat) v w, vs[i]? = some v → ws[i]? = some w → RelW ρ H v w) → RelW ρ H (.ref a) (.tup ws)
  | frl {a : Addr} {vs : List V} {ws : List W} : FzL K H a vs → vs.length = ws.length →
      (∀ (i : Nat) v w, vs[i]? = some v → ws[i]? = some w → RelW ρ H v w) → RelW ρ H (.ref a) (.frl ws)

abbrev RelWs (ρ : List Addr) (H : Hp) (vs : List V) (ws : List W) : Prop := Paired (RelW K ca ρ H) vs ws

def ObjR (ρ : List Addr) (H : Hp) (a : Addr) : GO → Prop
  | .lst ws => ∃ vs, H a = some (.lst vs) ∧ RelWs K ca ρ H vs ws
  | .dK kvs => ∃ kvs', H a = some (.dK kvs') ∧ Paired (fun (p : L2.Key × V) (q : L2.Key × W) => p.1 = q.1 ∧ RelW K ca ρ H p.2 q.2) kvs' kvs
  | .dT kvs => ∃ kvs', H a = some (.dT kvs') ∧ Paired (fun (p : GK × V) (q : GK × W) => p.1 = q.1 ∧ RelW K ca ρ H p.2 q.2) kvs' kvs
  | .ins c fs => ∃ dx fs', H a = some (.ins (ca c) dx fs') ∧ Paired (fun (p : Str × V) (q : Str × W) => p.1 = q.1 ∧ RelW K ca ρ H p.2 q.2) fs' fs

structure Rep (ρ : List Addr) (G : GH) (H : Hp) : Prop where
  len : ρ.length = G.length
  nd : ρ.Nodup
  obj : ∀ (n : Nat) a o, ρ[n]? = some a → G[n]? = some o → ObjR K ca ρ H a o

/-- H0: the heap ahead of what made it -/
def RelT (H0 : Hp) (ρ : List Addr) (H : Hp) (v : V) : T → Prop
  | .val w => RelW K ca ρ H v w
  | .tmp ws => ∃ p vs, v = .ref p ∧ p ∉ ρ ∧ H0 p = none ∧ H p = some (.lst vs) ∧ RelWs K ca ρ H vs ws

def RelS (ρ : List Addr) (H : Hp) (σ : SSt) (τ : Sl) : Prop :=
  σ.length = τ.length ∧ ∀ (i : Nat) w, τ[i]? = some (some w) → ∃ v, σ[i]? = some (some v) ∧ RelW K ca ρ H v w

def ExF (ρ : List Addr) (H : Hp) : Option Addr → List (Str × W) → Prop
  | none, fs => fs = []
  | some d, fs => fs ≠ [] ∧ ∃ fs', H d = some (.xd fs') ∧ Paired (fun (p : Str × V) (q : Str × W) => p.1 = q.1 ∧ RelW K ca ρ H p.2 q.2) fs' fs
end

theorem mem_at {ρ : List Addr} {a : Addr} (h : a ∈ ρ) : ∃ n : Nat, ρ[n]? = some a := List.getElem?_of_mem h
structure Ext (ρ : List Addr) (H : Hp) (ρ' : List Addr) (H' : Hp) : Prop where
  pre : ∀ (n : Nat) a, ρ[n]? = some a → ρ'[n]? = some a
  new : ∀ a ∈ ρ', a ∈ ρ ∨ H a = none
  keep : ∀ b o, b ∉ ρ → H b = some o → H' b = some o

theorem Ext.refl {ρ : List Addr} {H : Hp} : Ext ρ H ρ H := ⟨fun _ _ h => h, fun _ h => .inl h, fun _ _ _ h => h⟩
theorem Ext.trans {ρ ρ1 ρ2 : List Addr} {H H1 H2 : Hp} (a : Ext ρ H ρ1 H1) (b : Ext ρ1 H1 ρ2 H2) : Ext ρ H ρ2 H2 where
  pre n x h := b.pre n x (a.pre n x h)
  new x h := by
    rcases b.new x h with z | z
    · exact a.new x z
    · by_cases hx : x ∈ ρ
      · exact .inl hx
      · cases e : H x with
        | none => exact .inr rfl
        | some o =>
          have q := a.keep x o hx e
          rw [z] at q; cases q
  keep x o hx e := by
    refine b.keep x o (fun hm => ?_) (a.keep x o hx e)
    rcases a.new x hm with z | z
    · exact hx z
    · rw [e] at z; cases z

section
variable {K : PySem.W.Frag} {ca : Nat → Addr} {ρ ρ' : List Addr} {G G' : GH} {H H' : Hp}

theorem Rep.at (r : Rep K ca ρ G H) {n : Nat} {a : Addr} (h : ρ[n]? = some a) : ∃ o, G[n]? = some o ∧ ObjR K ca ρ H a o := by
  have h1 : n < G.length := by
    rw [← r.len]; exact (List.getElem?_eq_some_iff.mp h).1
  exact ⟨_, List.getElem?_eq_getElem h1, r.obj n a _ h (List.getElem?_eq_getElem h1)⟩
theorem Rep.addr (r : Rep K ca ρ G H) {n : Nat} {o : GO} (h : G[n]? = some o) : ∃ a, ρ[n]? = some a ∧ ObjR K ca ρ H a o := by
  have h1 : n < ρ.length := by
    rw [r.len]; exact (List.getElem?_eq_some_iff.mp h).1
  exact ⟨_, List.getElem?_eq_getElem h1, r.obj n _ o (List.getElem?_eq_getElem h1) h⟩
/-- nothing that never changes has a place -/
theorem Rep.noStat (r : Rep K ca ρ G H) {a : Addr} {u : HO} (h : H a = some u) (s : isStat u = true) : a ∉ ρ := fun hm => by
  obtain ⟨n, hn⟩ := mem_at hm
  obtain ⟨o, _, ho⟩ := r.at hn
  cases o with
  | lst ws => obtain ⟨_, e, _⟩ := ho; rw [h] at e; cases e; cases s
  | dK ws => obtain ⟨_, e, _⟩ := ho; rw [h] at e; cases e; cases s
  | dT ws => obtain ⟨_, e, _⟩ := ho; rw [h] at e; cases e; cases s
  | ins c fs => obtain ⟨_, _, e, _⟩ := ho; rw [h] at e; cases e; cases s
theorem Rep.stay (r : Rep K ca ρ G H) (x : Ext ρ H ρ' H') : Stay H H' := fun a u s h => x.keep _ _ (r.noStat h s) h
theorem RelW.mono {v : V} {w : W} (h : RelW K ca ρ H v w) (hp : ∀ (n : Nat) a, ρ[n]? = some a → ρ'[n]? = some a) (ht : Stay H H') : RelW K ca ρ' H' v w := by
  induction h with
  | non => exact .non
  | bl b => exact .bl b
  | int i => exact .int i
  | str x => exact .str x
  | ty n => exact .ty n
  | cls c => exact .cls c
  | exn c a => exact .exn c a
  | loc e => exact .loc (hp _ _ e)
  | tup hs hl _ ih => exact .tup (ht.sqT hs) hl ih
  | frl hs hl _ ih => exact .frl (ht.fz hs) hl ih
theorem paired_imp {α β : Type} {P Q : α → β → Prop} : ∀ {xs : List α} {ys : List β}, Paired P xs ys → (∀ x y, P x y → Q x y) → Paired Q xs ys
  | _, _, .nil, _ => .nil
  | _, _, .cons r t, f => .cons (f _ _ r) (paired_imp t f)
theorem RelW.ext {v : V} {w : W} (h : RelW K ca ρ H v w) (r : Rep K ca ρ G H) (x : Ext ρ H ρ' H') : RelW K ca ρ' H' v w := h.mono x.pre (r.stay x)
theorem relWs_ext {vs : List V} {ws : List W} (h : RelWs K ca ρ H vs ws) (r : Rep K ca ρ G H) (x : Ext ρ H ρ' H') : RelWs K ca ρ' H' vs ws := paired_imp h fun _ _ q => q.ext r x
theorem RelT.ext {H0 : Hp} {v : V} {t : T} (h : RelT K ca H0 ρ H v t) (r : Rep K ca ρ G H) (x : Ext ρ H ρ' H') : RelT K ca H0 ρ' H' v t := by
  cases t with
  | val w => exact RelW.ext h r x
  | tmp ws =>
    obtain ⟨p, vs, e, hn, h0, hp, hv⟩ := h
    refine ⟨p, vs, e, fun hm => ?_, h0, x.keep _ _ hn hp, relWs_ext hv r x⟩
    rcases x.new p hm with z | z
    · exact hn z
    · rw [hp] at z; cases z
/-- seen from an earlier heap -/
theorem RelT.back {H0 : Hp} {ρ0 : List Addr} {v : V} {t : T} (h : RelT K ca H ρ' H' v t) (a : Ext ρ0 H0 ρ H) (b : Ext ρ H ρ' H') : RelT K ca H0 ρ' H' v t := by
  cases t with
  | val w => exact h
  | tmp ws =>
    obtain ⟨p, vs, e, hn, h0, hp, hv⟩ := h
    refine ⟨p, vs, e, hn, ?_, hp, hv⟩
    cases q : H0 p with
    | none => rfl
    | some o =>
      by_cases hm : p ∈ ρ0
      · obtain ⟨n, hn'⟩ := mem_at hm
        exact absurd (List.mem_of_getElem? (b.pre _ _ (a.pre _ _ hn'))) hn
      · have z := a.keep p o hm q
        rw [h0] at z; cases z
theorem RelS.ext {σ : SSt} {τ : Sl} (h : RelS K ca ρ H σ τ) (r : Rep K ca ρ G H) (x : Ext ρ H ρ' H') : RelS K ca ρ' H' σ τ :=
  ⟨h.1, fun i w e => let ⟨v, e1, q⟩ := h.2 i w e; ⟨v, e1, q.ext r x⟩⟩
theorem RelS.set {σ : SSt} {τ : Sl} (h : RelS K ca ρ H σ τ) (i : Nat) {v : V} {w : W} (q : RelW K ca ρ H v w) : RelS K ca ρ H (σ.set i (some v)) (τ.set i (some w)) := by
  refine ⟨by rw [List.length_set, List.length_set]; exact h.1, fun j u e => ?_⟩
  by_cases hj : i = j
  · subst hj
    by_cases hl : i < τ.length
    · rw [List.getElem?_set_self hl] at e
      cases e
      exact ⟨v, List.getElem?_set_self (by rw [h.1]; exact hl), q⟩
    · rw [List.getElem?_eq_none (by rw [List.length_set]; omega)] at e
      cases e
  · rw [List.getElem?_set_ne hj] at e ⊢
    exact h.2 j u e
theorem RelS.unset {σ : SSt} {τ : Sl} (h : RelS K ca ρ H σ τ) (i : Nat) : RelS K ca ρ H (σ.set i none) (τ.set i none) := by
  refine ⟨by rw [List.length_set, List.length_set]; exact h.1, fun j u e => ?_⟩
  by_cases hj : i = j
  · subst hj
    by_cases hl : i < τ.length
    · rw [List.getElem?_set_self hl] at e; cases e
    · rw [List.getElem?_eq_none (by rw [List.length_set]; omega)] at e
      cases e
  · rw [List.getElem?_set_ne hj] at e ⊢
    exact h.2 j u e
theorem relWs_get : ∀ {vs : List V} {ws : List W} {i : Nat} {w : W}, RelWs K ca ρ H vs ws → ws[i]? = some w → ∃ v, vs[i]? = some v ∧ RelW K ca ρ H v w
  | _, _, _, _, .nil, e => by simp at e
  | _, _, 0, _, .cons q _, e => by simp at e; subst e; exact ⟨_, rfl, q⟩
  | _, _, i + 1, w, .cons _ t, e => by
    obtain ⟨v, h1, h2⟩ := relWs_get (i := i) (w := w) t (by simpa using e)
    exact ⟨v, by simpa using h1, h2⟩
theorem relWs_of : ∀ {vs : List V} {ws : List W}, vs.length = ws.length → (∀ (i : Nat) v w, vs[i]? = some v → ws[i]? = some w → RelW K ca ρ H v w) → RelWs K ca ρ H vs ws
  | [], [], _, _ => .nil
  | [], _ :: _, h, _ => by simp at h
  | _ :: _, [], h, _ => by simp at h
  | v :: vs, w :: ws, h, f => .cons (f 0 v w rfl rfl) (relWs_of (by simpa using h) fun i x y e1 e2 => f (i + 1) x y (by simpa using e1) (by simpa using e2))
theorem paired_get {α β : Type} {P : α → β → Prop} : ∀ {xs : List α} {ys : List β}, Paired P xs ys → ∀ (i : Nat) x y, xs[i]? = some x → ys[i]? = some y → P x y
  | _, _, .nil, _, _, _, e, _ => by simp at e
  | _, _, .cons q _, 0, _, _, e, f => by simp at e f; subst e; subst f; exact q
  | _, _, .cons _ t, i + 1, x, y, e, f => paired_get t i x y (by simpa using e) (by simpa using f)
theorem RelW.tup' {a : Addr} {vs : List V} {ws : List W} (hs : SqT K H a vs) (h : RelWs K ca ρ H vs ws) : RelW K ca ρ H (.ref a) (.tup ws) :=
  .tup hs h.length fun i v w e1 e2 => paired_get h i v w e1 e2
theorem relW_frl {v : V} {ws : List W} (h : RelW K ca ρ H v (.frl ws)) : ∃ a vs, v = .ref a ∧ FzL K H a vs ∧ RelWs K ca ρ H vs ws := by
  cases h with
  | frl hs hl f => exact ⟨_, _, rfl, hs, relWs_of hl f⟩
theorem relW_tup {v : V} {ws : List W} (h : RelW K ca ρ H v (.tup ws)) : ∃ a vs, v = .ref a ∧ SqT K H a vs ∧ RelWs K ca ρ H vs ws := by
  cases h with
  | tup hs hl f => exact ⟨_, _, rfl, hs, relWs_of hl f⟩

theorem objR_mono {a : Addr} {o : GO} (h : ObjR K ca ρ H a o) (hp : ∀ (n : Nat) a, ρ[n]? = some a → ρ'[n]? = some a) (ht : Stay H H') (ha : H' a = H a) : ObjR K ca ρ' H' a o := by
  cases o with
  | lst ws => obtain ⟨vs, e, q⟩ := h; exact ⟨vs, ha.trans e, paired_imp q fun _ _ z => z.mono hp ht⟩
  | dK ws => obtain ⟨vs, e, q⟩ := h; exact ⟨vs, ha.trans e, paired_imp q fun _ _ z => ⟨z.1, z.2.mono hp ht⟩⟩
  | dT ws => obtain ⟨vs, e, q⟩ := h; exact ⟨vs, ha.trans e, paired_imp q fun _ _ z => ⟨z.1, z.2.mono hp ht⟩⟩
  | ins c fs => obtain ⟨dx, vs, e, q⟩ := h; exact ⟨dx, vs, ha.trans e, paired_imp q fun _ _ z => ⟨z.1, z.2.mono hp ht⟩⟩

/-- an object that is not in G was laid -/
theorem Ext.laid {p : Addr} {o : HO} (hp : H p = none) : Ext ρ H ρ (upd H p o) :=
  ⟨fun _ _ h => h, fun _ h => .inl h, fun b u _ e => by rw [upd_ne (ne_of_none e hp)]; exact e⟩
theorem Rep.fresh (r : Rep K ca ρ G H) {p : Addr} (hp : H p = none) : p ∉ ρ := fun hm => by
  obtain ⟨n, hn⟩ := mem_at hm
  obtain ⟨o, _, ho⟩ := r.at hn
  cases o with
  | lst ws => obtain ⟨_, e, _⟩ := ho; rw [hp] at e; cases e
  | dK ws => obtain ⟨_, e, _⟩ := ho; rw [hp] at e; cases e
  | dT ws => obtain ⟨_, e, _⟩ := ho; rw [hp] at e; cases e
  | ins c fs => obtain ⟨_, _, e, _⟩ := ho; rw [hp] at e; cases e
theorem Rep.laid (r : Rep K ca ρ G H) {p : Addr} {o : HO} (hp : H p = none) : Rep K ca ρ G (upd H p o) := by
  refine ⟨r.len, r.nd, fun n a u e1 e2 => objR_mono (r.obj n a u e1 e2) (fun _ _ h => h) (Stay.laid hp) (upd_ne fun e => ?_)⟩
  subst e
  exact r.fresh hp (List.mem_of_getElem? e1)
/-- a list that nobody held gets a place -/
theorem Rep.take (r : Rep K ca ρ G H) {p : Addr} {vs : List V} {ws : List W} (hn : p ∉ ρ) (hp : H p = some (.lst vs)) (q : RelWs K ca ρ H vs ws) : Rep K ca (ρ ++ [p]) (G ++ [.lst ws]) H := by
  have pre : ∀ (n : Nat) a, ρ[n]? = some a → (ρ ++ [p])[n]? = some a := fun n a e => by
    rw [List.getElem?_append_left (List.getElem?_eq_some_iff.mp e).1]; exact e
  refine ⟨by simp [r.len], ?_, fun n a o e1 e2 => ?_⟩
  · rw [List.nodup_append]
    refine ⟨r.nd, by simp, fun a ha b hb e => ?_⟩
    have : b = p := by simpa using hb
    exact hn (by rw [← this, ← e]; exact ha)
  · by_cases hl : n < ρ.length
    · rw [List.getElem?_append_left hl] at e1
      rw [List.getElem?_append_left (by rw [← r.len]; exact hl)] at e2
      exact objR_mono (r.obj n a o e1 e2) pre Stay.refl rfl
    · have hl2 : ρ.length ≤ n := Nat.le_of_not_lt hl
      rw [List.getElem?_append_right hl2] at e1
      rw [List.getElem?_append_right (by rw [← r.len]; exact hl2), ← r.len] at e2
      cases h0 : n - ρ.length with
      | zero =>
        rw [h0] at e1 e2
        simp at e1 e2
        subst e1; subst e2
        exact ⟨vs, hp, paired_imp q fun _ _ z => z.mono pre Stay.refl⟩
      | succ k =>
        rw [h0] at e1
        simp at e1
theorem Ext.take {H0 : Hp} {ρ0 : List Addr} {p : Addr} (x : Ext ρ0 H0 ρ H) (h0 : H0 p = none) : Ext ρ0 H0 (ρ ++ [p]) H :=
  ⟨fun n a e => by
    have e' := x.pre n a e
    rw [List.getElem?_append_left (List.getElem?_eq_some_iff.mp e').1]; exact e', fun a h => by
    rcases List.mem_append.mp h with h | h
    · exact x.new a h
    · have e : a = p := by simpa using h
      exact .inr (e ▸ h0), x.keep⟩
end
end Sy
set_option Elab.async false
set_option linter.all false
set_option maxRecDepth 100000
set_option maxHeartbeats 4000000
namespace Sy
open PySem PySem.Spec PyProof.Rows L2

/-! what is asked behind a computation -/
section
variable (K : PySem.W.Frag) (ca : Nat → Addr)
def Post {α : Type} (Wx : WX) (σ : SSt) (ρ : List Addr) (H : Hp) (P : α → GH → List Addr → Hp → Prop) : R α → Prop
  | .ok a G' => ∀ ρ' H', Ext ρ H ρ' H' → Rep K ca ρ' G' H' → P a G' ρ' H'
  | .ex c fs G' => ∀ ρ' H' d, Ext ρ H ρ' H' → Rep K ca ρ' G' H' → ExF K ca ρ' H' d fs → Wx (.ref (ca c)) d σ H'
  | .bad => False
end
section
variable {K : PySem.W.Frag} {ca : Nat → Addr} {Wx : WX} {σ : SSt} {ρ ρ1 : List Addr} {H H1 : Hp} {α β : Type} {P Q : α → GH → List Addr → Hp → Prop}
theorem Post.imp {r : R α} (h : Post K ca Wx σ ρ H P r) (f : ∀ a G' ρ' H', Ext ρ H ρ' H' → Rep K ca ρ' G' H' → P a G' ρ' H' → Q a G' ρ' H') : Post K ca Wx σ ρ H Q r := by
  cases r with
  | ok a G' => exact fun ρ' H' x r => f a G' ρ' H' x r (h ρ' H' x r)
  | ex c fs G' => exact h
  | bad => exact h
/-- seen from a later state -/
theorem Post.later {r : R α} (h : Post K ca Wx σ ρ H P r) (x : Ext ρ H ρ1 H1) : Post K ca Wx σ ρ1 H1 P r := by
  cases r with
  | ok a G' => exact fun ρ' H' y r => h ρ' H' (x.trans y) r
  | ex c fs G' => exact fun ρ' H' d y r e => h ρ' H' d (x.trans y) r e
  | bad => exact h
theorem Post.bind {r : R α} {k : α → GH → R β} {P : β → GH → List Addr → Hp → Prop} (h : Post K ca Wx σ ρ H P (r.bind k)) :
    Post K ca Wx σ ρ H (fun a G1 ρ1 H1 => Post K ca Wx σ ρ1 H1 P (k a G1)) r := by
  cases r with
  | ok a G' => exact fun ρ' H' x _ => Post.later h x
  | ex c fs G' => exact h
  | bad => exact h
/-- .. with where it is seen from -/
theorem Post.bindX {r : R α} {k : α → GH → R β} {P : β → GH → List Addr → Hp → Prop} (h : Post K ca Wx σ ρ H P (r.bind k)) :
    Post K ca Wx σ ρ H (fun a G1 ρ1 H1 => Ext ρ H ρ1 H1 ∧ Post K ca Wx σ ρ1 H1 P (k a G1)) r :=
  h.bind.imp fun _ _ _ _ x _ q => ⟨x, q⟩
end

abbrev M (α : Type) := Sl → GH → R α
section
variable (K : PySem.W.Frag) (ca : Nat → Addr)
/-- an expression's, a test's, an argument list's reading by a computation -/
def tE (Wx : WX) (m : M T) : TE := fun σ H Q => ∃ ρ G τ, Rep K ca ρ G H ∧ RelS K ca ρ H σ τ ∧ Post K ca Wx σ ρ H (fun t _ ρ' H' => ∀ v, RelT K ca H ρ' H' v t → Q v H') (m τ G)
def tT (Wx : WX) (m : M Bool) : TT := fun σ H Q => ∃ ρ G τ, Rep K ca ρ G H ∧ RelS K ca ρ H σ τ ∧ Post K ca Wx σ ρ H (fun b _ _ H' => Q b H') (m τ G)
def tA (Wx : WX) (m : M (List W)) : TA := fun σ H Q => ∃ ρ G τ, Rep K ca ρ G H ∧ RelS K ca ρ H σ τ ∧ Post K ca Wx σ ρ H (fun ws _ ρ' H' => ∀ vs, RelWs K ca ρ' H' vs ws → Q vs H') (m τ G)
end

/-- an outcome of statements -/
inductive RS where
  | nx (τ : Sl) (G : GH) | rt (w : W) (G : GH) | bk (τ : Sl) (G : GH) | ct (τ : Sl) (G : GH) | ex (c : Nat) (fs : List (Str × W)) (τ : Sl) (G : GH) | bad
abbrev MS := Sl → GH → RS
section
variable (K : PySem.W.Frag) (ca : Nat → Addr)
def PostS (Wx : WX) (D : Ends) (ρ : List Addr) (H : Hp) : RS → Prop
  | .nx τ G' => ∀ ρ' H' σ', Ext ρ H ρ' H' → Rep K ca ρ' G' H' → RelS K ca ρ' H' σ' τ → D.nx σ' H'
  | .bk τ G' => ∀ ρ' H' σ', Ext ρ H ρ' H' → Rep K ca ρ' G' H' → RelS K ca ρ' H' σ' τ → D.bk σ' H'
  | .ct τ G' => ∀ ρ' H' σ', Ext ρ H ρ' H' → Rep K ca ρ' G' H' → RelS K ca ρ' H' σ' τ → D.ct σ' H'
  | .rt w G' => ∀ ρ' H' v, Ext ρ H ρ' H' → Rep K ca ρ' G' H' → RelW K ca ρ' H' v w → D.rt v H'
  | .ex c fs τ G' => ∀ ρ' H' d σ', Ext ρ H ρ' H' → Rep K ca ρ' G' H' → RelS K ca ρ' H' σ' τ → ExF K ca ρ' H' d fs → Wx (.ref (ca c)) d σ' H'
  | .bad => False
def tS (Wx : WX) (m : MS) : TS := fun D σ H => ∃ ρ G τ, Rep K ca ρ G H ∧ RelS K ca ρ H σ τ ∧ PostS K ca Wx D ρ H (m τ G)
end
theorem PostS.later {K : PySem.W.Frag} {ca : Nat → Addr} {Wx : WX} {D : Ends} {ρ ρ1 : List Addr} {H H1 : Hp} {r : RS} (h : PostS K ca Wx D ρ H r) (x : Ext ρ H ρ1 H1) : PostS K ca Wx D ρ1 H1 r := by
  cases r with
  | nx τ G' => exact fun ρ' H' s y r => h ρ' H' s (x.trans y) r
  | bk τ G' => exact fun ρ' H' s y r => h ρ' H' s (x.trans y) r
  | ct τ G' => exact fun ρ' H' s y r => h ρ' H' s (x.trans y) r
  | rt w G' => exact fun ρ' H' s y r => h ρ' H' s (x.trans y) r
  | ex c fs τ G' => exact fun ρ' H' d s y r => h ρ' H' d s (x.trans y) r
  | bad => exact h

/-! weaker readings -/
theorem PE.weak {X : Cx} {e : Expr} {t t' : TE} (h : PE X e t) (f : ∀ σ H Q, t' σ H Q → t σ H Q) : PE X e t' := ⟨fun pins s σ H Q I q => h.run pins s σ H Q I (f σ H Q q)⟩
theorem PT.weak {X : Cx} {e : Expr} {t t' : TT} (h : PT X e t) (f : ∀ σ H Q, t' σ H Q → t σ H Q) : PT X e t' := ⟨fun pins s σ H Q I q => h.run pins s σ H Q I (f σ H Q q)⟩
theorem PA.weak {X : Cx} {e : List Expr} {t t' : TA} (h : PA X e t) (f : ∀ σ H Q, t' σ H Q → t σ H Q) : PA X e t' := ⟨fun pos pins s σ H Q I q => h.run pos pins s σ H Q I (f σ H Q q)⟩
theorem PS.weak {X : Cx} {e : Stmt} {t t' : TS} (h : PS X e t) (f : ∀ D σ H, t' D σ H → t D σ H) : PS X e t' := ⟨fun pins s σ H D I q => h.run pins s σ H D I (f D σ H q)⟩
theorem PSs.weak {X : Cx} {e : List Stmt} {t t' : TS} (h : PSs X e t) (f : ∀ D σ H, t' D σ H → t D σ H) : PSs X e t' := ⟨fun pins s σ H D I q => h.run pins s σ H D I (f D σ H q)⟩

/-! computations -/
def mVar (i : Nat) : M T := fun τ G => match τ[i]? with | some (some w) => .ok (.val w) G | _ => .bad
def mC (w : W) : M T := fun _ G => .ok (.val w) G
def mBin (f : T → T → GH → R T) (a b : M T) : M T := fun τ G => (a τ G).bind fun x G1 => (b τ G1).bind fun y G2 => f x y G2
def mUn (f : T → GH → R T) (a : M T) : M T := fun τ G => (a τ G).bind f
def force : T → GH → R W
  | .val w, G => .ok w G
  | .tmp ws, G => .ok (.loc G.length) (G ++ [.lst ws])
def mF (a : M T) : M W := fun τ G => (a τ G).bind force
def mNil : M (List W) := fun _ G => .ok [] G
def mCons (a : M T) (r : M (List W)) : M (List W) := fun τ G => ((a τ G).bind force).bind fun w G1 => (r τ G1).bind fun ws G2 => .ok (w :: ws) G2
def mLst (a : M (List W)) : M T := fun τ G => (a τ G).bind fun ws G1 => if ws.length ≤ 16777216 then .ok (.tmp ws) G1 else .bad
def mTup (a : M (List W)) : M T := fun τ G => (a τ G).bind fun ws G1 => if ws.length ≤ 16777216 then .ok (.val (.tup ws)) G1 else .bad
/-- a value that is True or False -/
def asB : T → GH → R Bool
  | .val (.bl b), G => .ok b G
  | _, _ => .bad
def mB (a : M T) : M Bool := fun τ G => (a τ G).bind asB
def mOfB (a : M Bool) : M T := fun τ G => (a τ G).bind fun b G1 => .ok (.val (.bl b)) G1
def mAnd (a b : M Bool) : M Bool := fun τ G => (a τ G).bind fun x G1 => if x then b τ G1 else .ok false G1
def mOr (a b : M Bool) : M Bool := fun τ G => (a τ G).bind fun x G1 => if x then .ok true G1 else b τ G1
def mNot (a : M Bool) : M Bool := fun τ G => (a τ G).bind fun x G1 => .ok (!x) G1
def mIf (c : M Bool) (a b : M T) : M T := fun τ G => (c τ G).bind fun x G1 => if x then a τ G1 else b τ G1

section
variable {X : Cx} {ca : Nat → Addr} {Wx : WX} {σ : SSt} {H : Hp} {ρ : List Addr} {G : GH} {τ : Sl}
/-- the step that all rules take -/
theorem tE.start {m : M T} {Q : VK} (r : Rep X.K ca ρ G H) (s : RelS X.K ca ρ H σ τ) (h : Post X.K ca Wx σ ρ H (fun t _ ρ' H' => ∀ v, RelT X.K ca H ρ' H' v t → Q v H') (m τ G)) : tE X.K ca Wx m σ H Q := ⟨ρ, G, τ, r, s, h⟩
theorem tE.seq {α : Type} {m : M T} {k : T → GH → R α} {P : α → GH → List Addr → Hp → Prop} {Q : VK} (r : Rep X.K ca ρ G H) (s : RelS X.K ca ρ H σ τ) (h : Post X.K ca Wx σ ρ H P ((m τ G).bind k))
    (hk : ∀ t G1 ρ1 H1 v, Ext ρ H ρ1 H1 → Rep X.K ca ρ1 G1 H1 → RelS X.K ca ρ1 H1 σ τ → RelT X.K ca H ρ1 H1 v t → Post X.K ca Wx σ ρ1 H1 P (k t G1) → Q v H1) : tE X.K ca Wx m σ H Q :=
  ⟨ρ, G, τ, r, s, h.bind.imp fun t G1 ρ1 H1 x r1 q v rv => hk t G1 ρ1 H1 v x r1 (s.ext r x) rv q⟩
theorem s_var {i : Nat} {x : Str} {pos : Pos} (hN : X.N[i]? = some x) (hv : Vis X.env.scope x) (hd : (x == ("__debug__" : Str)) = false := by decide) (hcd : (x == ("__classdict__" : Str)) = false := by decide) : PE X (.Name x pos) (tE X.K ca Wx (mVar i)) := by
  refine PE.weak (pe_var hN hv hd hcd) fun σ H Q ⟨ρ, G, τ, r, s, h⟩ => ?_
  unfold mVar at h
  cases e : τ[i]? with
  | none => rw [e] at h; exact h.elim
  | some o =>
    cases o with
    | none => rw [e] at h; exact h.elim
    | some w =>
      rw [e] at h
      obtain ⟨v, e1, q⟩ := s.2 i w e
      exact ⟨v, e1, h ρ H .refl r v q⟩
theorem s_const {e : Expr} {v : V} {w : W} (h : PE X e (tC v)) (hw : ∀ ρ H, RelW X.K ca ρ H v w) : PE X e (tE X.K ca Wx (mC w)) :=
  PE.weak h fun σ H Q ⟨ρ, G, τ, r, s, q⟩ => q ρ H .refl r v (hw ρ H)
theorem s_int {i j pos} : PE X (.Constant (.int i) j pos) (tE X.K ca Wx (mC (.int i))) := s_const pe_int fun _ _ => .int i
theorem s_bl {i j pos} : PE X (.Constant (.bool i) j pos) (tE X.K ca Wx (mC (.bl i))) := s_const pe_bl fun _ _ => .bl i
theorem s_non {j pos} : PE X (.Constant .none j pos) (tE X.K ca Wx (mC .non)) := s_const pe_non fun _ _ => .non
theorem s_str {i j pos} : PE X (.Constant (.str i) j pos) (tE X.K ca Wx (mC (.str i))) := s_const pe_str fun _ _ => .str i

/-- f says what r asks -/
def Says2 (X : Cx) (ca : Nat → Addr) (r : R2) (f : T → T → GH → R T) : Prop :=
  ∀ (Wx : WX) (σ : SSt) (ρ : List Addr) (G : GH) (H H0 : Hp) (x y : V) (s t : T) (Q : VK), Rep X.K ca ρ G H → RelT X.K ca H0 ρ H x s → RelT X.K ca H0 ρ H y t →
    Post X.K ca Wx σ ρ H (fun t _ ρ' H' => ∀ v, RelT X.K ca H ρ' H' v t → Q v H') (f s t G) → r x y H Q
theorem says_in {r : R2} {f : T → T → GH → R T} (hs : Says2 X ca r f) {ma mb : M T} {Q : VK} (h : tE X.K ca Wx (mBin f ma mb) σ H Q) :
    tE X.K ca Wx ma σ H fun x H1 => tE X.K ca Wx mb σ H1 fun y H2 => r x y H2 Q := by
  obtain ⟨ρ, G, τ, r0, s0, h⟩ := h
  refine tE.seq r0 s0 h fun t1 G1 ρ1 H1 v1 x1 r1 s1 q1 h1 => ?_
  refine tE.seq r1 s1 h1 fun t2 G2 ρ2 H2 v2 x2 r2 s2 q2 h2 => ?_
  refine hs Wx σ ρ2 G2 H2 H v1 v2 t1 t2 Q r2 (q1.ext r1 x2) (q2.back x1 x2) (h2.imp fun t G' ρ' H' x' _ q v rv => q v (rv.back (x1.trans x2) x'))
theorem s_bin {a b : Expr} {op : Operator} {pos : Pos} {r : R2} {f : T → T → GH → R T} {ma mb : M T} (ho : OpR X (binaryOp op) r) (hs : Says2 X ca r f) (ha : PE X a (tE X.K ca Wx ma)) (hb : PE X b (tE X.K ca Wx mb)) :
    PE X (.BinOp a op b pos) (tE X.K ca Wx (mBin f ma mb)) := PE.weak (pe_op ho ha hb) fun _ _ _ h => says_in hs h
theorem s_cmp {a b : Expr} {op : CmpOp} {pos : Pos} {r : R2} {f : T → T → GH → R T} {ma mb : M T} (ho : OpR X (compareOp op) r) (hs : Says2 X ca r f) (ha : PE X a (tE X.K ca Wx ma)) (hb : PE X b (tE X.K ca Wx mb)) (hm : behindInMarks op b = false) :
    PE X (.Compare a [op] [b] pos) (tE X.K ca Wx (mBin f ma mb)) := PE.weak (pe_cmpR ho ha hb hm) fun _ _ _ h => says_in hs h

/-! tests -/
theorem tTest_of {m : M T} {Q : Bool → Hp → Prop} (h : tT X.K ca Wx (mB m) σ H Q) : tTest (tE X.K ca Wx m) σ H Q := by
  obtain ⟨ρ, G, τ, r0, s0, h⟩ := h
  refine tE.seq r0 s0 h fun t1 G1 ρ1 H1 v1 x1 r1 s1 q1 h1 => ?_
  cases t1 with
  | tmp ws => exact h1.elim
  | val w =>
    cases w with
    | bl b =>
      cases q1
      exact ⟨b, rfl, h1 ρ1 H1 .refl r1⟩
    | _ => exact h1.elim
theorem s_testCmp {a b : Expr} {op : CmpOp} {pos : Pos} {r : R2} {f : T → T → GH → R T} {ma mb : M T} (ho : OpR X (compareOp op) r) (hs : Says2 X ca r f) (ha : PE X a (tE X.K ca Wx ma)) (hb : PE X b (tE X.K ca Wx mb)) (hm : behindInMarks op b = false) :
    PT X (.Compare a [op] [b] pos) (tT X.K ca Wx (mB (mBin f ma mb))) := by
  refine PT.weak (pt_cmpR ho ha hb hm) fun σ H Q h => ?_
  obtain ⟨ρ, G, τ, r0, s0, h⟩ := h
  have h' := tTest_of ⟨ρ, G, τ, r0, s0, h⟩
  exact says_in hs h'
/-- an expression that is True or False, as a test -/
theorem s_test {e : Expr} {m : M T} (h : PE X e (tE X.K ca Wx m)) (he : ∀ whole, isTrue e X.env whole = (do let v ← whole; standAt e.pos; holding [v] (truthy v)) := by intro _; rfl) : PT X e (tT X.K ca Wx (mB m)) := by
  refine PT.weak (pt_val h he) fun σ H Q h => ?_
  exact tTest_of h
theorem tT.seq {α : Type} {m : M Bool} {k : Bool → GH → R α} {P : α → GH → List Addr → Hp → Prop} {Q : Bool → Hp → Prop} (r : Rep X.K ca ρ G H) (s : RelS X.K ca ρ H σ τ) (h : Post X.K ca Wx σ ρ H P ((m τ G).bind k))
    (hk : ∀ b G1 ρ1 H1, Ext ρ H ρ1 H1 → Rep X.K ca ρ1 G1 H1 → RelS X.K ca ρ1 H1 σ τ → Post X.K ca Wx σ ρ1 H1 P (k b G1) → Q b H1) : tT X.K ca Wx m σ H Q :=
  ⟨ρ, G, τ, r, s, h.bind.imp fun t G1 ρ1 H1 x r1 q => hk t G1 ρ1 H1 x r1 (s.ext r x) q⟩
section
variable {a b : Expr} {rest : List Expr} {pos : Pos} {ma mb : M Bool}
theorem w_and1 (ha : PT X a (tT X.K ca Wx ma)) : PW X (.BoolOp .And [a] pos) (tT X.K ca Wx ma) := pw_and1 ha
theorem w_or1 (ha : PT X a (tT X.K ca Wx ma)) : PW X (.BoolOp .Or [a] pos) (tT X.K ca Wx ma) := pw_or1 ha
theorem PW.weak {X : Cx} {e : Expr} {t t' : TT} (h : PW X e t) (f : ∀ σ H Q, t' σ H Q → t σ H Q) : PW X e t' := ⟨fun wh pins s σ H Q I q => h.run wh pins s σ H Q I (f σ H Q q)⟩
theorem w_and (ha : PT X a (tT X.K ca Wx ma)) (hb : PW X (.BoolOp .And (b :: rest) pos) (tT X.K ca Wx mb)) : PW X (.BoolOp .And (a :: b :: rest) pos) (tT X.K ca Wx (mAnd ma mb)) := by
  refine PW.weak (pw_and ha hb) fun σ H Q ⟨ρ, G, τ, r0, s0, h⟩ => ?_
  refine tT.seq r0 s0 h fun c G1 ρ1 H1 x1 r1 s1 h1 => ?_
  cases c with
  | true => exact ⟨ρ1, G1, τ, r1, s1, h1⟩
  | false => exact h1 ρ1 H1 .refl r1
theorem w_or (ha : PT X a (tT X.K ca Wx ma)) (hb : PW X (.BoolOp .Or (b :: rest) pos) (tT X.K ca Wx mb)) : PW X (.BoolOp .Or (a :: b :: rest) pos) (tT X.K ca Wx (mOr ma mb)) := by
  refine PW.weak (pw_or ha hb) fun σ H Q ⟨ρ, G, τ, r0, s0, h⟩ => ?_
  refine tT.seq r0 s0 h fun c G1 ρ1 H1 x1 r1 s1 h1 => ?_
  cases c with
  | true => exact h1 ρ1 H1 .refl r1
  | false => exact ⟨ρ1, G1, τ, r1, s1, h1⟩
theorem s_tnot (ha : PT X a (tT X.K ca Wx ma)) : PT X (.UnaryOp .Not a pos) (tT X.K ca Wx (mNot ma)) := by
  refine PT.weak (pt_not ha) fun σ H Q ⟨ρ, G, τ, r0, s0, h⟩ => ?_
  exact tT.seq r0 s0 h fun c G1 ρ1 H1 x1 r1 s1 h1 => h1 ρ1 H1 .refl r1
end
/-! and, or, not as values that are True or False -/
section
variable {a b : Expr} {rest : List Expr} {pos : Pos} {ma mb : M T}
theorem v_one {op} (ha : PE X a (tE X.K ca Wx ma)) : PE X (.BoolOp op [a] pos) (tE X.K ca Wx ma) := pe_one ha
def mAndV (a b : M T) : M T := fun τ G => (a τ G).bind fun x G1 => (asB x G1).bind fun c G2 => if c then b τ G2 else .ok (.val (.bl false)) G2
def mOrV (a b : M T) : M T := fun τ G => (a τ G).bind fun x G1 => (asB x G1).bind fun c G2 => if c then .ok (.val (.bl true)) G2 else b τ G2
def mNotV (a : M T) : M T := fun τ G => (a τ G).bind fun x G1 => (asB x G1).bind fun c G2 => .ok (.val (.bl (!c))) G2
theorem asB_of {α : Type} {t1 : T} {G1 : GH} {ρ1 : List Addr} {H0 H1 : Hp} {v1 : V} {P : α → GH → List Addr → Hp → Prop} {k : Bool → GH → R α} (q1 : RelT X.K ca H0 ρ1 H1 v1 t1) (h : Post X.K ca Wx σ ρ1 H1 P ((asB t1 G1).bind k)) :
    ∃ c, v1 = .bl c ∧ Post X.K ca Wx σ ρ1 H1 P (k c G1) := by
  cases t1 with
  | tmp ws => exact h.elim
  | val w =>
    cases w with
    | bl b =>
      cases q1
      exact ⟨b, rfl, h⟩
    | _ => exact h.elim
theorem v_and (ha : PE X a (tE X.K ca Wx ma)) (hb : PE X (.BoolOp .And (b :: rest) pos) (tE X.K ca Wx mb)) : PE X (.BoolOp .And (a :: b :: rest) pos) (tE X.K ca Wx (mAndV ma mb)) := by
  refine PE.weak (pe_and ha hb) fun σ H Q ⟨ρ, G, τ, r0, s0, h⟩ => ?_
  refine tE.seq r0 s0 h fun t1 G1 ρ1 H1 v1 x1 r1 s1 q1 h1 => ?_
  obtain ⟨c, e, h2⟩ := asB_of q1 h1
  refine ⟨c, e, ?_⟩
  cases c with
  | true => exact ⟨ρ1, G1, τ, r1, s1, Post.imp h2 fun t _ ρ' H' x' _ q v rv => q v (rv.back x1 x')⟩
  | false => exact h2 ρ1 H1 .refl r1 _ (.bl false)
theorem v_or (ha : PE X a (tE X.K ca Wx ma)) (hb : PE X (.BoolOp .Or (b :: rest) pos) (tE X.K ca Wx mb)) : PE X (.BoolOp .Or (a :: b :: rest) pos) (tE X.K ca Wx (mOrV ma mb)) := by
  refine PE.weak (pe_or ha hb) fun σ H Q ⟨ρ, G, τ, r0, s0, h⟩ => ?_
  refine tE.seq r0 s0 h fun t1 G1 ρ1 H1 v1 x1 r1 s1 q1 h1 => ?_
  obtain ⟨c, e, h2⟩ := asB_of q1 h1
  refine ⟨c, e, ?_⟩
  cases c with
  | true => exact h2 ρ1 H1 .refl r1 _ (.bl true)
  | false => exact ⟨ρ1, G1, τ, r1, s1, Post.imp h2 fun t _ ρ' H' x' _ q v rv => q v (rv.back x1 x')⟩
theorem v_not (ha : PE X a (tE X.K ca Wx ma)) : PE X (.UnaryOp .Not a pos) (tE X.K ca Wx (mNotV ma)) := by
  refine PE.weak (pe_not ha) fun σ H Q ⟨ρ, G, τ, r0, s0, h⟩ => ?_
  refine tE.seq r0 s0 h fun t1 G1 ρ1 H1 v1 x1 r1 s1 q1 h1 => ?_
  obtain ⟨c, e, h2⟩ := asB_of q1 h1
  exact ⟨c, e, h2 ρ1 H1 .refl r1 _ (.bl _)⟩
theorem s_ife {c : Expr} {mc : M Bool} (hc : PT X c (tT X.K ca Wx mc)) (ha : PE X a (tE X.K ca Wx ma)) (hb : PE X b (tE X.K ca Wx mb)) : PE X (.IfExp c a b pos) (tE X.K ca Wx (mIf mc ma mb)) := by
  refine PE.weak (pe_ifExp hc ha hb) fun σ H Q ⟨ρ, G, τ, r0, s0, h⟩ => ?_
  refine tT.seq r0 s0 h fun c G1 ρ1 H1 x1 r1 s1 h1 => ?_
  cases c with
  | true => exact ⟨ρ1, G1, τ, r1, s1, Post.imp h1 fun t _ ρ' H' x' _ q v rv => q v (rv.back x1 x')⟩
  | false => exact ⟨ρ1, G1, τ, r1, s1, Post.imp h1 fun t _ ρ' H' x' _ q v rv => q v (rv.back x1 x')⟩
end

/-! argument lists, displays -/
theorem force_ok {α : Type} {t1 : T} {G1 : GH} {ρ0 ρ1 : List Addr} {H0 H1 : Hp} {v1 : V} {P : α → GH → List Addr → Hp → Prop} {k : W → GH → R α} (x : Ext ρ0 H0 ρ1 H1) (r1 : Rep X.K ca ρ1 G1 H1) (q1 : RelT X.K ca H0 ρ1 H1 v1 t1)
    (h : Post X.K ca Wx σ ρ0 H0 P ((force t1 G1).bind k)) :
    ∃ w G2 ρ2, Ext ρ0 H0 ρ2 H1 ∧ Rep X.K ca ρ2 G2 H1 ∧ RelW X.K ca ρ2 H1 v1 w ∧ (∀ (n : Nat) a, ρ1[n]? = some a → ρ2[n]? = some a) ∧ Post X.K ca Wx σ ρ2 H1 P (k w G2) := by
  cases t1 with
  | val w => exact ⟨w, G1, ρ1, x, r1, q1, fun _ _ e => e, Post.later h x⟩
  | tmp ws =>
    obtain ⟨p, vs, e, hn, h0, hp, hv⟩ := q1
    subst e
    have y := x.take h0
    refine ⟨.loc G1.length, G1 ++ [.lst ws], ρ1 ++ [p], y, r1.take hn hp hv, .loc ?_, fun n a e => ?_, Post.later h y⟩
    · rw [← r1.len]
      simp
    · rw [List.getElem?_append_left (List.getElem?_eq_some_iff.mp e).1]; exact e
theorem RelS.pre {K : PySem.W.Frag} {ρ ρ' : List Addr} (h : RelS K ca ρ H σ τ) (hp : ∀ (n : Nat) a, ρ[n]? = some a → ρ'[n]? = some a) : RelS K ca ρ' H σ τ :=
  ⟨h.1, fun i w e => let ⟨v, e1, q⟩ := h.2 i w e; ⟨v, e1, q.mono hp Stay.refl⟩⟩
/-- an expression, then forced: as all rules take it -/
theorem tE.seqF {α : Type} {m : M T} {k : W → GH → R α} {P : α → GH → List Addr → Hp → Prop} {Q : VK} (r : Rep X.K ca ρ G H) (s : RelS X.K ca ρ H σ τ) (h : Post X.K ca Wx σ ρ H P (((m τ G).bind force).bind k))
    (hk : ∀ w G1 ρ1 H1 v, Ext ρ H ρ1 H1 → Rep X.K ca ρ1 G1 H1 → RelS X.K ca ρ1 H1 σ τ → RelW X.K ca ρ1 H1 v w → Post X.K ca Wx σ ρ1 H1 P (k w G1) → Q v H1) : tE X.K ca Wx m σ H Q := by
  have h2 : Post X.K ca Wx σ ρ H P ((m τ G).bind fun t G1 => (force t G1).bind k) := by
    cases e : m τ G with
    | ok t G1 => rw [e] at h; exact h
    | ex c fs G1 => rw [e] at h; exact h
    | bad => rw [e] at h; exact h
  refine ⟨ρ, G, τ, r, s, ?_⟩
  cases e : m τ G with
  | ok t G1 =>
    rw [e] at h2
    intro ρ1 H1 x1 r1 v q1
    obtain ⟨w, G2, ρ2, y, r2, q2, pre, h3⟩ := force_ok x1 r1 q1 h2
    exact hk w G2 ρ2 H1 v y r2 ((s.ext r x1).pre pre) q2 h3
  | ex c fs G1 => rw [e] at h2; exact h2
  | bad => rw [e] at h2; exact h2
theorem a_nil : PA X [] (tA X.K ca Wx mNil) := PA.weak pa_nil fun σ H Q ⟨ρ, G, τ, r0, s0, h⟩ => h ρ H .refl r0 [] .nil
theorem a_cons {e : Expr} {es : List Expr} {m : M T} {ms : M (List W)} (he : PE X e (tE X.K ca Wx m)) (hr : PA X es (tA X.K ca Wx ms)) (hs : starEach (e :: es) X.env = (false, eval e X.env) :: starEach es X.env := by rfl) :
    PA X (e :: es) (tA X.K ca Wx (mCons m ms)) := by
  refine PA.weak (pa_cons he hr hs) fun σ H Q ⟨ρ, G, τ, r0, s0, h⟩ => ?_
  refine tE.seqF r0 s0 h fun w G1 ρ1 H1 v x1 r1 s1 q1 h1 => ?_
  refine ⟨ρ1, G1, τ, r1, s1, h1.bind.imp fun ws G2 ρ2 H2 x2 r2 h2 vs qs => ?_⟩
  exact h2 ρ2 H2 .refl r2 (v :: vs) (.cons (q1.ext r1 x2) qs)
theorem tA.seq {α : Type} {m : M (List W)} {k : List W → GH → R α} {P : α → GH → List Addr → Hp → Prop} {Q : List V → Hp → Prop} (r : Rep X.K ca ρ G H) (s : RelS X.K ca ρ H σ τ) (h : Post X.K ca Wx σ ρ H P ((m τ G).bind k))
    (hk : ∀ ws G1 ρ1 H1 vs, Ext ρ H ρ1 H1 → Rep X.K ca ρ1 G1 H1 → RelS X.K ca ρ1 H1 σ τ → RelWs X.K ca ρ1 H1 vs ws → Post X.K ca Wx σ ρ1 H1 P (k ws G1) → Q vs H1) : tA X.K ca Wx m σ H Q :=
  ⟨ρ, G, τ, r, s, h.bind.imp fun ws G1 ρ1 H1 x r1 q vs rv => hk ws G1 ρ1 H1 vs x r1 (s.ext r x) rv q⟩
theorem s_tup {es : List Expr} {x1 : Nat} {pos : Pos} {ms : M (List W)} (h : PA X es (tA X.K ca Wx ms)) : PE X (.Tuple es x1 pos) (tE X.K ca Wx (mTup ms)) := by
  refine PE.weak (pe_tup h) fun σ H Q ⟨ρ, G, τ, r0, s0, h⟩ => ?_
  refine tA.seq r0 s0 h fun ws G1 ρ1 H1 vs x1 r1 s1 q1 h1 => ?_
  have hl := q1.length
  by_cases hz : ws.length ≤ 16777216
  · rw [if_pos hz] at h1
    refine ⟨by rw [sizeLine_eq]; omega, fun p hp => ?_⟩
    have x2 : Ext ρ1 H1 ρ1 (upd H1 p (.tup vs)) := Ext.laid hp
    exact h1 ρ1 _ x2 (r1.laid hp) _ (RelW.tup' (.of upd_same) (relWs_ext q1 r1 x2))
  · rw [if_neg hz] at h1
    exact h1.elim
theorem s_lst {es : List Expr} {pos : Pos} {ms : M (List W)} (h : PA X es (tA X.K ca Wx ms)) : PE X (.List es pos) (tE X.K ca Wx (mLst ms)) := by
  refine PE.weak (pe_lst h) fun σ H Q ⟨ρ, G, τ, r0, s0, h⟩ => ?_
  refine tA.seq r0 s0 h fun ws G1 ρ1 H1 vs x1 r1 s1 q1 h1 => ?_
  have hl := q1.length
  by_cases hz : ws.length ≤ 16777216
  · rw [if_pos hz] at h1
    refine ⟨by rw [sizeLine_eq]; omega, fun p hp => ?_⟩
    have x2 : Ext ρ1 H1 ρ1 (upd H1 p (.lst vs)) := Ext.laid hp
    refine h1 ρ1 _ x2 (r1.laid hp) _ ?_
    refine RelT.back (ρ := ρ1) (H := H1) ?_ x1 x2
    exact ⟨p, vs, rfl, r1.fresh hp, hp, upd_same, relWs_ext q1 r1 x2⟩
  · rw [if_neg hz] at h1
    exact h1.elim
end
end Sy
set_option Elab.async false
set_option linter.all false
set_option maxRecDepth 100000
set_option maxHeartbeats 4000000
/-! a tuple once; enumerate of a tuple -/
namespace Sy
open PySem PySem.Spec PyProof.Rows L2
theorem tupOnce (l : Addr) (items : Array Value) (n : Nat) (dd : Option Addr) (sl : Array (Option Value)) (u : Tok) :
    Meets (Builtin.«tuple.__mul__» ⟨[.ref l, .int 1 u], []⟩) (fun _ R s => s.heap.get? l = some { cls := .type "tuple", dict := dd, data := .seq items n, slots := sl } ∧ R (.ok (.ret (Value.ref l))) s) :=
  .of_wp fun prog w A R s h => by
    obtain ⟨hp, g, d, tk, os⟩ := s
    obtain ⟨hl, h⟩ := h
    have f1 := AutoSeq1.idx_int
    have c1 : (items.isEmpty || (1 : Int) == 1) = true := by simp
    wp_walk using AutoSeq1.wpAny_loadPart' hl
    repeat (first
      | (refine wpAny_ite_true (by rw [c1]) ?_; wp_walk using AutoSeq1.wpAny_loadPart' hl))
    exact ⟨_, rfl, h⟩
def rOneT (K : PySem.W.Frag) : R2 := fun x y H Q => ∃ l xs, x = .ref l ∧ y = .int 1 ∧ SqT K H l xs ∧ Q (.ref l) H
section
variable {X : Cx}
theorem op_oneT : OpR X (binaryOp .Mult) (rOneT X.K) := by
  intro pins s σ H x y v u Q I rx ry h
  obtain ⟨l, xs, rfl, rfl, hT, q⟩ := h
  cases rx
  obtain ⟨t, rfl⟩ := ry
  obtain ⟨its, r, ⟨⟨cls, dd, data, sl⟩, ho, hc, n, hd⟩, hs⟩ := I.tuple hT
  simp only at hc hd
  subst hc hd
  exact wpAny_binaryOp_repeat_ref (T := "tuple") (U := "int") (by decide) ⟨_, ho, rfl⟩ (fun s' => typeIs_int s' 1 t) noFill_tuple_mul F.fills_int_mul F.slot_int_rmul repeat_tuple F.slot_int_index.lookup
    (call_meets F.slot_int_rmul (typeIs_int s 1 t) F.entry_int_rmul (F.args_int_rmul_2 _ _) (int_rmul_tuple 1 t l its.toArray n dd sl)
      ⟨ho, rfl, ⟨_, ho, rfl⟩, call_meets F.slot_tuple_mul ⟨_, ho, rfl⟩ F.entry_tuple_mul (F.args_tuple_mul_2 _ _) (tupOnce l its.toArray n dd sl t) ⟨ho, .ref l, H, I, rfl, q⟩⟩)
end
/-! enumerate of a tuple -/
theorem enumNewT (l : Addr) (items : Array Value) (n : Nat) (dct : Option Addr) (sl : Array (Option Value)) :
    Meets (Builtin.«enumerate.__new__» ⟨[.type "enumerate", .ref l], []⟩) (fun _ R s => s.heap.get? l = some { cls := .type "tuple", dict := dct, data := .seq items n, slots := sl } ∧
      R (.ok (.ret (.ref (s.heap.push { cls := .type "tuple_iterator", data := .fields #[.ref l, .int 0 0] }).objs.size)))
        { s with heap := (s.heap.push { cls := .type "tuple_iterator", data := .fields #[.ref l, .int 0 0] }).push { cls := .type "enumerate", data := .fields #[.none, .bool false, .ref s.heap.objs.size, rawInt 0, .none, .none] } }) :=
  .of_wp fun prog w A R s h => by
    obtain ⟨hp, g, d, tk, os⟩ := s
    obtain ⟨hl, h⟩ := h
    have hsub := sub_enumerate
    have hLT : Heap.IsTuple (Shared.heap ⟨hp, g, d, tk, os⟩) l items := ⟨_, hl, rfl, n, rfl⟩
    wp_walk using AutoSeq1.wpAny_loadPart' hl
    refine wpAny_stack_any fun st => wpAny_pure ?_
    split
    · rename_i c _ _ _ _ _
      cases (c == Value.type "enumerate") <;>
      · wp_walk using AutoSeq1.wpAny_loadPart' hl, wpAny_pyIter_tuple hLT
        exact ⟨_, rfl, h⟩
    · wp_walk using AutoSeq1.wpAny_loadPart' hl, wpAny_pyIter_tuple hLT
      exact ⟨_, rfl, h⟩
theorem enumCallT {prog : Program} {w : World} {A : Around} {E : Value → Shared → Prop} {s : Shared} {l : Addr} {items : Array Value} {Q : Value → Shared → Prop} (hL : s.heap.IsTuple l items)
    (h : ∀ h', IsEnum h' (s.heap.objs.size + 1) s.heap.objs.size 0 .none → h'.IsTupleIter s.heap.objs.size l 0 →
      (∀ b o, s.heap.get? b = some o → h'.get? b = some o) → Q (.ref (s.heap.objs.size + 1)) { s with heap := h' }) :
    wpAny (model prog w) A (call (.type "enumerate") [.ref l]) Q E s := by
  obtain ⟨⟨c, dct, dt, sl⟩, hl, hc, n, hd⟩ := hL
  simp only at hc hd
  subst hc hd
  refine callType_new F.called_enumerate (by decide) (F.typeCall_enumerate_1 _) (F.newCall_enumerate_1 _) (fun obj => F.args_object_init_2 obj _) F.entry_enumerate_new (enumNewT l items n dct sl) ⟨hl, ?_⟩
  generalize eI : ({ cls := Value.type "tuple_iterator", data := .fields #[.ref l, .int 0 0] } : Obj) = oI
  have hz : (s.heap.push oI).objs.size = s.heap.objs.size + 1 := Heap.size_push ..
  rw [hz]
  generalize eE : ({ cls := Value.type "enumerate", data := .fields #[.none, .bool false, .ref s.heap.objs.size, rawInt 0, .none, .none] } : Obj) = oE
  have he : ((s.heap.push oI).push oE).get? (s.heap.objs.size + 1) = some oE := by
    have := Heap.get?_push_size (s.heap.push oI) (o := oE) (by rw [← eE]; rfl)
    rw [hz] at this
    exact this
  have hi : ((s.heap.push oI).push oE).get? s.heap.objs.size = some oI := Heap.get?_push_of_some _ (Heap.get?_push_size _ (by rw [← eI]; rfl))
  refine ⟨⟨_, he, by rw [← eE]⟩, h _ ?_ ⟨_, hi, by rw [← eI], by rw [← eI]; rfl⟩ fun b o x => Heap.get?_push_of_some _ (Heap.get?_push_of_some _ x)⟩
  show Heap.get? _ _ = _
  rw [he, ← eE]
theorem drawsT {prog : Program} {w : World} {A : Around} (hh : A.handled = none) (it l : Addr) (hne : l ≠ it) (items : Array Value) :
    Draws prog w A it [it, l] items.size (fun i v => items[i]? = some v) (fun i h => h.IsTupleIter it l i ∧ h.IsTuple l items) where
  live := fun _ _ st => let ⟨o, ho, _⟩ := st.1; ⟨o, ho⟩
  frame := fun _ _ _ st hk => ⟨st.1.at fun o e => hk it (by simp) o e, let ⟨o, ho, r⟩ := st.2; ⟨o, hk l (by simp) o ho, r⟩⟩
  item := fun i s Q E hi st hQ => by
    refine RZ.nextOf_tuple_item st.1 st.2 (x := items[i]) (by simp [hi]) fun h' hit' hs' => ?_
    exact hQ _ h' s.toks (by simp [hi]) ⟨hit', st.2.extBut hs'.extBut hne⟩ hs'
  done := fun s Q E st hE => RZ.nextOf_tuple_end hh st.1 st.2 (by simp) hE
/-- the tuple at a, each item in a new pair with its number -/
def IteT (K : PySem.W.Frag) (a : Addr) : It :=
  ⟨fun i H => ∃ (xs : List V) (x : V), SqT K H a xs ∧ xs[i]? = some x,
    fun i H v H' => ∃ T x, v = .ref T ∧ H T = none ∧ H' = upd H T (.tup [.int (i : Nat), x]) ∧ ∀ xs, SqT K H a xs → xs[i]? = some x,
    fun i H => ∃ xs : List V, SqT K H a xs ∧ xs.length ≤ i⟩
theorem turn_enumT {P : Program} {w : World} {K : PySem.W.Frag} {elts : List Expr} {kk : Nat} {tpos : Pos} (a e it : Addr) :
    Turn P w K (.Tuple elts kk tpos) (IteT K a) [e, it] e (fun i h => (∃ old, IsEnum h e it ((i : Nat) : Int) old) ∧ h.IsTupleIter it a i ∧ e ≠ it ∧ e ≠ a ∧ a ≠ it) where
  mem := List.mem_cons_self
  obj := fun i h st b hb => by
    obtain ⟨⟨old, he⟩, ⟨o, ho, hc, hd⟩, _⟩ := st
    rcases (show b = e ∨ b = it by simpa using hb) with z | z
    · rw [z]
      exact ⟨_, he, fun v q => nomatch q⟩
    · rw [z]
      exact ⟨o, ho, fun v q => by rw [hd] at q; cases q⟩
  keep := fun i h h' st k => by
    obtain ⟨⟨old, he⟩, hi, hne⟩ := st
    exact ⟨⟨old, k e List.mem_cons_self _ he⟩, hi.at fun o q => k it (by simp) o q, hne⟩
  item := by
    intro X hP hw hK hc i pins s σ H E I hf st hg
    subst hP hw hK
    obtain ⟨⟨old, he⟩, hit, hne, hea, hai⟩ := st
    obtain ⟨xs, x, hq, hx⟩ := hg
    obtain ⟨its, rv, p, hz⟩ := I.tuple hq
    obtain ⟨u, hu, ru⟩ := rv.get hx
    have hel : e < s.heap.objs.size := Heap.lt_size he
    have hil : it < s.heap.objs.size := let ⟨_, q, _⟩ := hit; Heap.lt_size q
    have hD := drawsT (prog := X.prog) (w := X.w) (A := X.A.in1) (I.ok.hd hc) it a hai its.toArray
    have hlt : i < its.toArray.size := by
      have := (List.getElem?_eq_some_iff.mp hu).1
      simpa using this
    refine wpAny_pyNext_enum_itemD hD he ⟨hit, p⟩ hlt hne (by simp [hne, hea]) fun y h' tk hy ho hst hT hsz hk => ?_
    have hy' : y = u := by
      have e1 : its[i]? = some y := by simpa using hy
      rw [hu] at e1
      exact (Option.some.inj e1).symm
    subst hy'
    refine ⟨_, rfl, wpAny_letOwnedTupleGo_enum (s := { s with heap := h', toks := tk + 1 }) ho fun h'' he' sb => ?_⟩
    have hT2 := (sb.2 _ (Nat.ne_of_gt hel)).trans hT
    have nw : ObjOk X.prog X.w (upd H s.heap.objs.size (.tup [.int (i : Nat), x])) h'' s.heap.objs.size (.tup [.int (i : Nat), x]) :=
      ⟨by show 2 ≤ sizeLine; decide, [.int i tk, y], .cons ⟨_, rfl⟩ (.cons ru .nil), ⟨_, hT2, rfl, _, rfl⟩⟩
    have I1 : Inv X pins σ (upd H s.heap.objs.size (.tup [.int (i : Nat), x])) { s with heap := h'', toks := tk + 1 } :=
      I.turnedNew (ch := [e, it]) (fun b ob hb q => (sb.2 b (fun z => hb (by simp [z]))).trans (hk b ob (fun z => hb (by simp [z])) (fun z => hb (by simp [z])) q)) hf (Nat.le_refl _) nw
    refine ⟨.ref s.heap.objs.size, _, I1, rfl, ⟨_, x, rfl, I.hok.fresh (Nat.le_refl _), rfl, fun ys hy => by rw [I.tuple_inj hy hq]; exact hx⟩, ⟨⟨y, ?_⟩, hst.1.at fun o q => (sb.2 it (Ne.symm hne)).trans q, hne, hea, hai⟩, fun b hb => ?_⟩
    · rw [show ((i + 1 : Nat) : Int) = (i : Int) + 1 by omega]
      exact he'
    · have hb' : b < s.heap.objs.size := by
        rcases (show b = e ∨ b = it by simpa using hb) with z | z
        · exact z ▸ hel
        · exact z ▸ hil
      rw [upd_ne (Nat.ne_of_lt hb')]
      exact (hf b hb).1
  done := by
    intro X hP hw hK hc i pins s σ H E I hf st hg
    subst hP hw hK
    obtain ⟨⟨old, he⟩, hit, hne, hea, hai⟩ := st
    obtain ⟨xs, hq, hx⟩ := hg
    obtain ⟨its, rv, p, hz⟩ := I.tuple hq
    obtain ⟨f0, f1, f2, f3, f4, f5⟩ := hf it (by simp)
    have hl := rv.length
    unfold pyNext
    refine wpAny_bind (wpAny_attempt (wpAny_callSpecial?_slot (name := Str.ofString "__next__") ⟨_, he, rfl⟩ F.slot_enumerate_next (wpAny_call_entry F.slot_enumerate_next ⟨_, he, rfl⟩ F.entry_enumerate_next ?_ (F.args_enumerate_next_1 _))))
    show wpAny _ _ (field (.ref e) 2 >>= _) _ _ _
    refine wpAny_bind (wpAny_field he rfl (x := .ref it) rfl ?_)
    refine wpAny_bind (RZ.nextOf_tuple_end (I.ok.hd hc) hit p (by simp; omega) fun h' x he' hx' => ?_)
    obtain ⟨o, ho, hcl⟩ := hx'
    refine wpAny_bind (wpAny_isInstance (T := "StopIteration") (b := true) ⟨o, ho, hcl⟩ isSubtype_stop ?_)
    exact wpAny_pure ⟨rfl, I.turned (t' := s.toks) (fun b o hb q => he' b o hb q) f0 f1 f3 f4 f5⟩
  self := fun A i s Q E st h => let ⟨⟨_, he⟩, _⟩ := st; wpAny_pyIter_enum he h
def iEnumA (K : PySem.W.Frag) (ta : TA) : TI := fun σ H R => ta σ H fun vs H1 => ∃ a xs, vs = [.ref a] ∧ ((SqL K H1 a xs ∧ R (Ite K a) H1) ∨ (SqT K H1 a xs ∧ R (IteT K a) H1))
theorem pi_enumA {X : Cx} {e : Expr} {ta : TA} {p pos tpos : Pos} {elts : List Expr} {kk : Nat} (hg : Gl X "enumerate") (hm : X.mg "enumerate" = none) (ha : PA X [e] ta) (hs : starEach [e] X.env = [(false, eval e X.env)] := by rfl) :
    PI X (.Tuple elts kk tpos) (.Call (.Name "enumerate" p) [e] [] pos) (iEnumA X.K ta) := by
  refine ⟨fun pins s σ H R I h => ?_⟩
  refine Call_ (ld_blt I hg hm boot_enumerate (PyProof.Rows.callWith_type1 (thn (ha.run pos pins s σ H _ I h) fun us s1 ⟨vs, H1, I1, r1, q1⟩ => ?_) hs rfl))
  obtain ⟨a, xs, ex, q1⟩ := q1
  subst ex
  have fr : ∀ b, b ∈ [s1.heap.objs.size + 1, s1.heap.objs.size] → FpOk X pins H1 b := fun b hb => by
    have hle : s1.heap.objs.size ≤ b := by
      rcases (show b = s1.heap.objs.size + 1 ∨ b = s1.heap.objs.size by simpa using hb) with z | z
      · exact z ▸ Nat.le_add_right _ _
      · exact z ▸ Nat.le_refl _
    exact I1.fpOk hle (I1.hok.fresh hle)
  cases r1 with
  | cons r rr =>
    cases rr
    cases r
    rcases q1 with ⟨hq, q⟩ | ⟨hq, q⟩
    · obtain ⟨its, rv, p', hz⟩ := I1.list hq
      refine call_enumerate_list p'.isList fun h' he hit hsz hk => wpAny_pyIter_enum he ?_
      exact ⟨s1.heap.objs.size + 1, [s1.heap.objs.size + 1, s1.heap.objs.size], _, _, H1, rfl, I1.kept (t' := s1.toks) hk, turn_enum a (s1.heap.objs.size + 1) s1.heap.objs.size, ⟨⟨.none, he⟩, hit, Nat.succ_ne_self _⟩, fr, q⟩
    · obtain ⟨its, rv, p', hz⟩ := I1.tuple hq
      have hal : a < s1.heap.objs.size := let ⟨_, q, _⟩ := p'; Heap.lt_size q
      refine enumCallT p' fun h' he hit hk => wpAny_pyIter_enum he ?_
      exact ⟨s1.heap.objs.size + 1, [s1.heap.objs.size + 1, s1.heap.objs.size], _, _, H1, rfl, I1.kept (t' := s1.toks) hk, turn_enumT a (s1.heap.objs.size + 1) s1.heap.objs.size, ⟨⟨.none, he⟩, hit, Nat.succ_ne_self _, Nat.ne_of_gt (Nat.lt_succ_of_lt hal), Nat.ne_of_lt hal⟩, fr, q⟩
/-! lists of unlike lengths; a thing and itself -/
def rEqLen (K : PySem.W.Frag) : R2 := fun x y H Q => ∃ a b vs us, x = .ref a ∧ y = .ref b ∧ SqL K H a vs ∧ SqL K H b us ∧ vs.length ≠ us.length ∧ Q (.bl false) H
def rNeLen (K : PySem.W.Frag) : R2 := fun x y H Q => ∃ a b vs us, x = .ref a ∧ y = .ref b ∧ SqL K H a vs ∧ SqL K H b us ∧ vs.length ≠ us.length ∧ Q (.bl true) H
section
variable {X : Cx}
theorem op_eqLen (hu : X.A.units + 64 < cLine) : OpR X (compareOp .Eq) (rEqLen X.K) := by
  intro pins s σ H x y v u Q I rx ry h
  obtain ⟨a, b, vs, us, rfl, rfl, h1, h2, hl, q⟩ := h
  cases rx
  cases ry
  obtain ⟨its, r1, p1, _⟩ := I.list h1
  obtain ⟨its2, r2, p2, _⟩ := I.list h2
  have l1 := r1.length
  have l2 := r2.length
  have hs : (its.toArray.size != its2.toArray.size) = true := by
    simp
    omega
  exact SeqAt.eq_list_lengthsAt p1.isList p2.isList hs (by omega) ⟨.bl false, H, I, rfl, q⟩
theorem op_neLen (hu : X.A.units + 64 < cLine) : OpR X (compareOp .NotEq) (rNeLen X.K) := by
  intro pins s σ H x y v u Q I rx ry h
  obtain ⟨a, b, vs, us, rfl, rfl, h1, h2, hl, q⟩ := h
  cases rx
  cases ry
  obtain ⟨its, r1, p1, _⟩ := I.list h1
  obtain ⟨its2, r2, p2, _⟩ := I.list h2
  have l1 := r1.length
  have l2 := r2.length
  have hs : (its.toArray.size != its2.toArray.size) = true := by
    simp
    omega
  exact SeqAt.RcNeAt.lists_lengths p1.isList p2.isList hs (by omega) X.prog X.w X.xe _ ⟨.bl true, H, I, rfl, q⟩
def rEqA (K : PySem.W.Frag) : R2 := fun x y H Q => rEqD K x y H Q ∨ rEqV K x y H Q ∨ rEqLen K x y H Q
def rNeA (K : PySem.W.Frag) : R2 := fun x y H Q => rNeD K x y H Q ∨ rNeLen K x y H Q
theorem op_eqA (hu : X.A.units + 64 < cLine) : OpR X (compareOp .Eq) (rEqA X.K) := (op_eqD hu).or ((op_eqV hu).or (op_eqLen hu))
theorem op_neA (hu : X.A.units + 64 < cLine) : OpR X (compareOp .NotEq) (rNeA X.K) := (op_neD hu).or (op_neLen hu)
/-- a thing equals itself -/
def refl1 : V → Prop := fun v => flatB v = true ∨ ∃ a, v = .ref a
theorem eqV_refl (K : PySem.W.Frag) (H : Hp) {v : V} (h : refl1 v) : EqV K H 1 v v := by
  rcases h with h | ⟨a, rfl⟩
  · exact .inl ⟨rfl, h⟩
  · exact .inr (.inl ⟨a, rfl, rfl⟩)
theorem eqR_selfL {K : PySem.W.Frag} {H : Hp} {a : Addr} {vs : List V} (h : SqL K H a vs) (f : ∀ v ∈ vs, refl1 v) : EqR K H (EqV K H 1) (.ref a) (.ref a) := by
  refine .inl ⟨a, a, vs, vs, rfl, rfl, h, h, ?_⟩
  clear h
  induction vs with
  | nil => exact .nil
  | cons v vs ih => exact .cons (eqV_refl K H (f v List.mem_cons_self)) (ih fun u hu => f u (List.mem_cons_of_mem _ hu))
theorem eqR_selfD {K : PySem.W.Frag} {H : Hp} {a : Addr} (h : H a = some (.dK [])) : EqR K H (EqV K H 1) (.ref a) (.ref a) :=
  .inr ⟨a, a, [], [], rfl, rfl, h, h, rfl, fun p hp => absurd hp (by simp)⟩
end
end Sy
set_option Elab.async false
set_option linter.all false
set_option maxRecDepth 100000
set_option maxHeartbeats 4000000
namespace Sy
open PySem PySem.Spec PyProof.Rows L2

/-! what stands at a value -/
def GO.rd : GO → Option (List W)
  | .lst ws => some ws
  | _ => none
def GO.wr : GO → Option (List W)
  | .lst ws => some ws
  | _ => none
def rdw (G : GH) : W → Option (List W)
  | .loc n => G[n]?.bind GO.rd
  | .frl ws => some ws
  | _ => none
def wrw (G : GH) : W → Option (List W)
  | .loc n => G[n]?.bind GO.wr
  | _ => none
def rdl (t : T) (G : GH) : Option (List W) := match t with
  | .tmp ws => some ws
  | .val w => rdw G w
def wrl (t : T) (G : GH) : Option (List W) := match t with
  | .tmp ws => some ws
  | .val w => wrw G w
def rdt : T → Option (List W)
  | .val (.tup ws) => some ws
  | _ => none
section
variable {K : PySem.W.Frag} {ca : Nat → Addr} {ρ : List Addr} {G : GH} {H H0 : Hp} {v : V} {t : T} {ws : List W}
theorem rdw_of {w : W} (r : Rep K ca ρ G H) (q : RelW K ca ρ H v w) (h : rdw G w = some ws) : ∃ a vs, v = .ref a ∧ SqL K H a vs ∧ RelWs K ca ρ H vs ws := by
  cases w with
  | loc n =>
    cases q with
    | loc hn =>
      obtain ⟨o, e, ho⟩ := r.at hn
      have h : G[n]?.bind GO.rd = some ws := h
      rw [e] at h
      cases o with
      | lst us => cases h; obtain ⟨vs, e, q⟩ := ho; exact ⟨_, vs, rfl, .of e, q⟩
      | _ => cases h
  | frl us =>
    cases h
    obtain ⟨a, vs, e, hv, qs⟩ := relW_frl q
    exact ⟨a, vs, e, hv.sq, qs⟩
  | _ => cases h
theorem wrw_of {w : W} (r : Rep K ca ρ G H) (q : RelW K ca ρ H v w) (h : wrw G w = some ws) : ∃ a vs, v = .ref a ∧ H a = some (.lst vs) ∧ RelWs K ca ρ H vs ws := by
  cases w with
  | loc n =>
    cases q with
    | loc hn =>
      obtain ⟨o, e, ho⟩ := r.at hn
      have h : G[n]?.bind GO.wr = some ws := h
      rw [e] at h
      cases o with
      | lst us => cases h; obtain ⟨vs, e, q⟩ := ho; exact ⟨_, vs, rfl, e, q⟩
      | _ => cases h
  | _ => cases h
theorem rdl_of (r : Rep K ca ρ G H) (q : RelT K ca H0 ρ H v t) (h : rdl t G = some ws) : ∃ a vs, v = .ref a ∧ SqL K H a vs ∧ RelWs K ca ρ H vs ws := by
  cases t with
  | tmp us =>
    cases h
    obtain ⟨p, vs, e, _, _, hp, hv⟩ := q
    exact ⟨p, vs, e, .of hp, hv⟩
  | val w => exact rdw_of r q h
theorem wrl_of (r : Rep K ca ρ G H) (q : RelT K ca H0 ρ H v t) (h : wrl t G = some ws) : ∃ a vs, v = .ref a ∧ H a = some (.lst vs) ∧ RelWs K ca ρ H vs ws := by
  cases t with
  | tmp us =>
    cases h
    obtain ⟨p, vs, e, _, _, hp, hv⟩ := q
    exact ⟨p, vs, e, hp, hv⟩
  | val w => exact wrw_of r q h
theorem rdt_of (q : RelT K ca H0 ρ H v t) (h : rdt t = some ws) : ∃ a vs, v = .ref a ∧ SqT K H a vs ∧ RelWs K ca ρ H vs ws := by
  cases t with
  | tmp us => cases h
  | val w =>
    cases w with
    | tup us => cases h; exact relW_tup q
    | _ => cases h
end

/-! data -/
def mapO {α β : Type} (f : α → Option β) : List α → Option (List β)
  | [] => some []
  | x :: xs => (f x).bind fun y => (mapO f xs).bind fun ys => some (y :: ys)
def toD : Nat → GH → W → Option PyData
  | 0, _, _ => none
  | n + 1, G, w => match w with
    | .non => some .none
    | .bl b => some (.bool b)
    | .int i => some (.int i)
    | .str x => if x.cps.all (· < 0x110000) then some (.str x) else none
    | .tup ws => (mapO (toD n G) ws).map .tuple
    | .loc k => (rdw G (.loc k)).bind fun ws => (mapO (toD n G) ws).map .list
    | .frl ws => (mapO (toD n G) ws).map .list
    | .ty _ => none
    | .cls _ => none
    | .exn _ _ => none
def toDT (G : GH) : T → Option PyData
  | .val w => toD 9 G w
  | .tmp ws => (mapO (toD 8 G) ws).map .list

theorem mapO_dp {K : PySem.W.Frag} {ca : Nat → Addr} {ρ : List Addr} {G : GH} {H : Hp} {n : Nat} (f : ∀ (w : W) (v : V) (d : PyData), RelW K ca ρ H v w → toD n G w = some d → Dp K H v d ∧ d.canLay0 = true ∧ d.depth ≤ n) :
    ∀ {ws : List W} {vs : List V} {ds : List PyData}, RelWs K ca ρ H vs ws → mapO (toD n G) ws = some ds → DpAll K H vs ds ∧ PyData.canLayAll0 ds = true ∧ PyData.depthAll ds ≤ n
  | [], _, _, .nil, h => by cases h; exact ⟨.nil, rfl, Nat.zero_le _⟩
  | w :: ws, _, ds, .cons q t, h => by
    unfold mapO at h
    cases e1 : toD n G w with
    | none => rw [e1] at h; cases h
    | some d =>
      cases e2 : mapO (toD n G) ws with
      | none => rw [e1, e2] at h; cases h
      | some ds' =>
        rw [e1, e2] at h; cases h
        obtain ⟨a1, a2, a3⟩ := f w _ d q e1
        obtain ⟨b1, b2, b3⟩ := mapO_dp f t e2
        exact ⟨.cons a1 b1, by unfold PyData.canLayAll0; rw [a2, b2]; rfl, by unfold PyData.depthAll; omega⟩
theorem toD_dp {K : PySem.W.Frag} {ca : Nat → Addr} {ρ : List Addr} {G : GH} {H : Hp} (r : Rep K ca ρ G H) : ∀ (n : Nat) (w : W) (v : V) (d : PyData), RelW K ca ρ H v w → toD n G w = some d → Dp K H v d ∧ d.canLay0 = true ∧ d.depth ≤ n
  | 0, _, _, _, _, h => by cases h
  | n + 1, w, v, d, q, h => by
    cases w with
    | non => cases h; cases q; exact ⟨.non, rfl, Nat.zero_le _⟩
    | bl b => cases h; cases q; exact ⟨.bl b, rfl, Nat.zero_le _⟩
    | int b => cases h; cases q; exact ⟨.int b, rfl, Nat.zero_le _⟩
    | str x =>
      have h' : (if x.cps.all (· < 0x110000) then some (PyData.str x) else none) = some d := h
      by_cases z : x.cps.all (· < 0x110000) = true
      · rw [if_pos z] at h'
        cases h'; cases q; exact ⟨.str x, by unfold PyData.canLay0; exact z, Nat.zero_le _⟩
      · rw [if_neg z] at h'; cases h'
    | tup ws =>
      have h' : (mapO (toD n G) ws).map PyData.tuple = some d := h
      cases e : mapO (toD n G) ws with
      | none => rw [e] at h'; cases h'
      | some ds =>
        rw [e] at h'; cases h'
        obtain ⟨a, vs, rfl, hs, qs⟩ := relW_tup q
        obtain ⟨h1, h2, h3⟩ := mapO_dp (toD_dp r n) qs e
        exact ⟨.tup hs h1, by unfold PyData.canLay0; exact h2, by unfold PyData.depth; omega⟩
    | loc k =>
      have h' : ((rdw G (.loc k)).bind fun ws => (mapO (toD n G) ws).map PyData.list) = some d := h
      cases e0 : rdw G (.loc k) with
      | none => rw [e0] at h'; cases h'
      | some ws =>
        rw [e0] at h'
        have h2 : (mapO (toD n G) ws).map PyData.list = some d := h'
        cases e : mapO (toD n G) ws with
        | none => rw [e] at h2; cases h2
        | some ds =>
          rw [e] at h2; cases h2
          obtain ⟨a, vs, rfl, hs, qs⟩ := rdw_of r q e0
          obtain ⟨h1, h2, h3⟩ := mapO_dp (toD_dp r n) qs e
          exact ⟨.lst hs h1, by unfold PyData.canLay0; exact h2, by unfold PyData.depth; omega⟩
    | frl ws =>
      have h' : (mapO (toD n G) ws).map PyData.list = some d := h
      cases e : mapO (toD n G) ws with
      | none => rw [e] at h'; cases h'
      | some ds =>
        rw [e] at h'; cases h'
        obtain ⟨a, vs, rfl, hs, qs⟩ := relW_frl q
        obtain ⟨h1, h2, h3⟩ := mapO_dp (toD_dp r n) qs e
        exact ⟨.lst hs.sq h1, by unfold PyData.canLay0; exact h2, by unfold PyData.depth; omega⟩
    | ty b => cases h
    | cls b => cases h
    | exn b a => cases h
theorem toDT_dp {K : PySem.W.Frag} {ca : Nat → Addr} {ρ : List Addr} {G : GH} {H H0 : Hp} (r : Rep K ca ρ G H) {t : T} {v : V} {d : PyData} (q : RelT K ca H0 ρ H v t) (h : toDT G t = some d) : Dp K H v d ∧ SeqAt.shaped d = true := by
  cases t with
  | val w =>
    obtain ⟨h1, h2, h3⟩ := toD_dp r 9 w v d q h
    exact ⟨h1, by unfold SeqAt.shaped; rw [h2]; exact decide_eq_true (by omega)⟩
  | tmp ws =>
    obtain ⟨p, vs, rfl, _, _, hp, qs⟩ := q
    have h' : (mapO (toD 8 G) ws).map PyData.list = some d := h
    cases e : mapO (toD 8 G) ws with
    | none => rw [e] at h'; cases h'
    | some ds =>
      rw [e] at h'; cases h'
      obtain ⟨h1, h2, h3⟩ := mapO_dp (toD_dp r 8) qs e
      refine ⟨.lst (.of hp) h1, ?_⟩
      unfold SeqAt.shaped
      have z : (PyData.list ds).canLay0 = true := by unfold PyData.canLay0; exact h2
      rw [z]
      refine decide_eq_true ?_
      unfold PyData.depth
      omega

/-! operations by values -/
def fI2 (c : Int → Int → Bool) (g : Int → Int → Int) : T → T → GH → R T
  | .val (.int i), .val (.int j), G => if c i j then .ok (.val (.int (g i j))) G else .bad
  | _, _, _ => .bad
def fC2 (g : Int → Int → Bool) : T → T → GH → R T
  | .val (.int i), .val (.int j), G => .ok (.val (.bl (g i j))) G
  | _, _, _ => .bad
def lineN : Nat := 16777216
def fAdd : T → T → GH → R T
  | .val (.int i), .val (.int j), G => .ok (.val (.int (i + j))) G
  | .val (.str x), .val (.str y), G => if x.length + y.length ≤ 16777216 then .ok (.val (.str (x ++ y))) G else .bad
  | .val (.tup xs), .val (.tup ys), G => if xs.length + ys.length ≤ 16777216 then .ok (.val (.tup (xs ++ ys))) G else .bad
  | x, y, G => match wrl x G, wrl y G with
    | some xs, some ys => if xs.length + ys.length ≤ 16777216 then .ok (.tmp (xs ++ ys)) G else .bad
    | _, _ => .bad
def mulOk (i j : Int) : Bool := decide (Builtin.Int.intBits i + Builtin.Int.intBits j ≤ 134217728)
def repW (ws : List W) (k : Nat) : List W := (List.replicate k ws).flatten
def repS (x : Str) (n : Int) : Str := if n < 1 then Str.empty else if (n == 1 || x.length == 0) = true then x else ⟨(List.replicate n.toNat x.cps).foldl (· ++ ·) #[]⟩
def repOk (x : Str) (k : Int) : Bool := decide (-(2 ^ 63) ≤ k) && decide (k < 2 ^ 63) && decide (x.length * k.toNat ≤ 16777216) && decide ((repS x k).length ≤ 16777216)
def fMul : T → T → GH → R T
  | .val (.int i), .val (.int j), G => if mulOk i j then .ok (.val (.int (i * j))) G else .bad
  | .val (.tup xs), .val (.int k), G => if k = 1 then .ok (.val (.tup xs)) G else if !xs.isEmpty && decide (2 ≤ k) && decide (k ≤ 1000) && decide (xs.length ≤ 1000) then .ok (.val (.tup (repW xs k.toNat))) G else .bad
  | .val (.str x), .val (.int k), G => if repOk x k then .ok (.val (.str (repS x k))) G else .bad
  | x, .val (.int k), G => match wrl x G with
    | some xs => if decide (-(2 ^ 63) ≤ k) && decide (k < 2 ^ 63) && decide (xs.length * k.toNat ≤ 16777216) then .ok (.tmp (repW xs k.toNat)) G else .bad
    | _ => .bad
  | _, _, _ => .bad
def fSub := fI2 (fun _ _ => true) (fun i j => i - j)
def fFdiv := fI2 (fun _ j => decide (0 < j) && decide (j.natAbs.log2 < 9000)) (fun i j => i / j)
def fMod := fI2 (fun _ j => decide (0 < j)) (fun i j => i % j)
def fShl := fI2 (fun i j => decide (0 ≤ j) && decide ((Builtin.Int.intBits i : Int) + j ≤ 2 ^ 27)) (fun i j => i * 2 ^ j.toNat)
def fShr := fI2 (fun _ j => decide (0 ≤ j)) (fun i j => i / 2 ^ j.toNat)
def fAnd := fI2 (fun _ _ => true) Builtin.bitAnd
def fOr := fI2 (fun _ _ => true) Builtin.bitOr
def fXor := fI2 (fun _ _ => true) Builtin.bitXor
def fPow := fI2 (fun i j => decide (0 ≤ j) && decide (j ≤ 1000000) && decide (i.natAbs < 2 ^ 64)) (fun i j => i ^ j.toNat)
def fLt := fC2 (fun i j => decide (i < j))
def fLe := fC2 (fun i j => decide (i ≤ j))
def fGt := fC2 (fun i j => decide (j < i))
def fGe := fC2 (fun i j => decide (j ≤ i))
def reflW : W → Bool
  | .non => true
  | .bl _ => true
  | .int _ => true
  | .str _ => true
  | .loc _ => true
  | .tup _ => true
  | .frl _ => true
  | _ => false
def locT : T → Option Nat
  | .val (.loc n) => some n
  | _ => none
def isD0 (n : Nat) (G : GH) : Bool := match G[n]? with
  | some (.dK []) => true
  | _ => false
/-- equal, or not, by what is plain to see -/
def eqSeen (x y : T) (G : GH) : Option Bool := match rdl x G, rdl y G with
  | some ws, some us => if ws.length ≠ us.length then some false else if (locT x).isSome ∧ locT x = locT y ∧ ws.all reflW = true then some true else none
  | _, _ => match locT x, locT y with
    | some n, some m => if n = m ∧ isD0 n G = true then some true else none
    | _, _ => none
def fEq (x y : T) (G : GH) : R T := match toDT G x, toDT G y with
  | some d, some e => .ok (.val (.bl (PyData.eqv d e))) G
  | _, _ => match eqSeen x y G with
    | some b => .ok (.val (.bl b)) G
    | none => .bad
def fNe (x y : T) (G : GH) : R T := match toDT G x, toDT G y with
  | some d, some e => .ok (.val (.bl (!PyData.eqv d e))) G
  | _, _ => match eqSeen x y G with
    | some false => .ok (.val (.bl true)) G
    | _ => .bad
def isNonW : W → Bool
  | .non => true
  | _ => false
def fIs : T → T → GH → R T
  | .val x, .val .non, G => .ok (.val (.bl (isNonW x))) G
  | .val (.bl a), .val (.bl b), G => .ok (.val (.bl (decide (a = b)))) G
  | _, _, _ => .bad
def fIsNot : T → T → GH → R T
  | .val x, .val .non, G => .ok (.val (.bl (!isNonW x))) G
  | .val (.bl a), .val (.bl b), G => .ok (.val (.bl (!decide (a = b)))) G
  | _, _, _ => .bad
section
variable {X : Cx} {ca : Nat → Addr}
theorem says_I {C : Int → Int → Prop} {c : Int → Int → Bool} {g : Int → Int → Int} (h : ∀ i j, c i j = true → C i j) : Says2 X ca (rI C fun i j => .int (g i j)) (fI2 c g) := by
  intro Wx σ ρ G H H0 x y s t Q r qx qy hp
  unfold fI2 at hp
  split at hp
  · cases qx; cases qy
    split at hp
    · rename_i z
      exact ⟨_, _, rfl, rfl, h _ _ z, hp ρ H .refl r _ (.int _)⟩
    · exact hp.elim
  · exact hp.elim
theorem says_I0 {g : Int → Int → Int} : Says2 X ca (rI0 fun i j => .int (g i j)) (fI2 (fun _ _ => true) g) := by
  intro Wx σ ρ G H H0 x y s t Q r qx qy hp
  unfold fI2 at hp
  split at hp
  · cases qx; cases qy
    exact ⟨_, _, rfl, rfl, hp ρ H .refl r _ (.int _)⟩
  · exact hp.elim
theorem says_C {g : Int → Int → Bool} : Says2 X ca (rI0 fun i j => .bl (g i j)) (fC2 g) := by
  intro Wx σ ρ G H H0 x y s t Q r qx qy hp
  unfold fC2 at hp
  split at hp
  · cases qx; cases qy
    exact ⟨_, _, rfl, rfl, hp ρ H .refl r _ (.bl _)⟩
  · exact hp.elim
theorem says_sub : Says2 X ca (rI0 fun i j => .int (i - j)) fSub := says_I0
theorem says_fdiv : Says2 X ca (rI CDivW fun i j => .int (i / j)) fFdiv := says_I fun i j h => by
  rw [Bool.and_eq_true] at h
  exact ⟨of_decide_eq_true h.1, of_decide_eq_true h.2⟩
theorem says_mod : Says2 X ca (rI (fun _ j => 0 < j) fun i j => .int (i % j)) fMod := says_I fun i j h => of_decide_eq_true h
theorem says_shl : Says2 X ca (rI CShl fun i j => .int (i * 2 ^ j.toNat)) fShl := says_I fun i j h => by
  rw [Bool.and_eq_true] at h
  exact ⟨of_decide_eq_true h.1, of_decide_eq_true h.2⟩
theorem says_shr : Says2 X ca (rI (fun _ j => 0 ≤ j) fun i j => .int (i / 2 ^ j.toNat)) fShr := says_I fun i j h => of_decide_eq_true h
theorem says_band : Says2 X ca (rI0 fun i j => .int (Builtin.bitAnd i j)) fAnd := says_I0
theorem says_bor : Says2 X ca (rI0 fun i j => .int (Builtin.bitOr i j)) fOr := says_I0
theorem says_bxor : Says2 X ca (rI0 fun i j => .int (Builtin.bitXor i j)) fXor := says_I0
theorem says_pow : Says2 X ca (rI CPow fun i j => .int (i ^ j.toNat)) fPow := says_I fun i j h => by
  rw [Bool.and_eq_true, Bool.and_eq_true] at h
  exact ⟨of_decide_eq_true h.1.1, of_decide_eq_true h.1.2, of_decide_eq_true h.2⟩
theorem refl1_of {K : PySem.W.Frag} {ρ : List Addr} {H : Hp} {v : V} {w : W} (q : RelW K ca ρ H v w) (h : reflW w = true) : refl1 v := by
  cases q with
  | non => exact .inl rfl
  | bl b => exact .inl rfl
  | int i => exact .inl rfl
  | str x => exact .inl rfl
  | ty n => cases h
  | cls c => cases h
  | exn c a => cases h
  | loc hn => exact .inr ⟨_, rfl⟩
  | tup hs _ _ => exact .inr ⟨_, rfl⟩
  | frl hs _ _ => exact .inr ⟨_, rfl⟩
theorem refls_of {K : PySem.W.Frag} {ρ : List Addr} {H : Hp} : ∀ {vs : List V} {ws : List W}, RelWs K ca ρ H vs ws → ws.all reflW = true → ∀ v ∈ vs, refl1 v
  | _, _, .nil, _ => fun v hv => absurd hv (by simp)
  | _, _, .cons q t, h => fun v hv => by
    rw [List.all_cons, Bool.and_eq_true] at h
    rcases List.mem_cons.mp hv with z | z
    · rw [z]
      exact refl1_of q h.1
    · exact refls_of t h.2 v z
theorem locT_some {t : T} {n : Nat} (h : locT t = some n) : t = .val (.loc n) := by
  unfold locT at h
  split at h
  · cases h
    rfl
  · cases h
theorem says_eq : Says2 X ca (rEqA X.K) fEq := by
  intro Wx σ ρ G H H0 x y s t Q r qx qy hp
  unfold fEq at hp
  split at hp
  · rename_i d e e1 e2
    obtain ⟨a1, a2⟩ := toDT_dp r qx e1
    obtain ⟨b1, b2⟩ := toDT_dp r qy e2
    exact .inl ⟨d, e, a1, b1, a2, b2, hp ρ H .refl r _ (.bl _)⟩
  · split at hp
    · rename_i bb hs
      have q := hp ρ H .refl r _ (.bl _)
      unfold eqSeen at hs
      split at hs
      · rename_i ws us e1 e2
        obtain ⟨a, vs, rfl, ha, qa⟩ := rdl_of r qx e1
        obtain ⟨b, vs2, rfl, hb, qb⟩ := rdl_of r qy e2
        have l1 := qa.length
        have l2 := qb.length
        split at hs
        · rename_i hl
          cases hs
          exact .inr (.inr ⟨a, b, vs, vs2, rfl, rfl, ha, hb, by omega, q⟩)
        · split at hs
          · rename_i hl h2
            cases hs
            obtain ⟨h3, h4, h5⟩ := h2
            obtain ⟨n, hn⟩ := Option.isSome_iff_exists.mp h3
            rw [hn] at h4
            have es := locT_some hn
            have et := locT_some h4.symm
            subst es et
            have hab : a = b := by
              cases qx with
              | loc h6 =>
                cases qy with
                | loc h7 =>
                  rw [h6] at h7
                  exact Option.some.inj h7
            subst hab
            exact .inr (.inl ⟨1, by decide, eqR_selfL ha (refls_of qa h5), q⟩)
          · cases hs
      · split at hs
        · rename_i n m e1 e2
          split at hs
          · rename_i h2
            cases hs
            obtain ⟨rfl, h3⟩ := h2
            have es := locT_some e1
            have et := locT_some e2
            subst es et
            cases qx with
            | loc h6 =>
              cases qy with
              | loc h7 =>
                rw [h6] at h7
                cases h7
                unfold isD0 at h3
                split at h3
                · rename_i e5
                  obtain ⟨o, e4, ho⟩ := r.at h6
                  rw [e5] at e4
                  cases e4
                  obtain ⟨kvs, e6, p⟩ := ho
                  cases p
                  exact .inr (.inl ⟨1, by decide, eqR_selfD e6, q⟩)
                · cases h3
          · cases hs
        · cases hs
    · exact hp.elim
theorem says_ne : Says2 X ca (rNeA X.K) fNe := by
  intro Wx σ ρ G H H0 x y s t Q r qx qy hp
  unfold fNe at hp
  split at hp
  · rename_i d e e1 e2
    obtain ⟨a1, a2⟩ := toDT_dp r qx e1
    obtain ⟨b1, b2⟩ := toDT_dp r qy e2
    exact .inl ⟨d, e, a1, b1, a2, b2, hp ρ H .refl r _ (.bl _)⟩
  · split at hp
    · rename_i hs
      have q := hp ρ H .refl r _ (.bl _)
      unfold eqSeen at hs
      split at hs
      · rename_i ws us e1 e2
        obtain ⟨a, vs, rfl, ha, qa⟩ := rdl_of r qx e1
        obtain ⟨b, vs2, rfl, hb, qb⟩ := rdl_of r qy e2
        have l1 := qa.length
        have l2 := qb.length
        split at hs
        · rename_i hl
          exact .inr ⟨a, b, vs, vs2, rfl, rfl, ha, hb, by omega, q⟩
        · split at hs <;> cases hs
      · split at hs
        · split at hs <;> cases hs
        · cases hs
    · exact hp.elim
def rAddA (K : PySem.W.Frag) : R2 := fun x y H Q => rI0 (fun i j => .int (i + j)) x y H Q ∨ (∃ i j, x = .str i ∧ y = .str j ∧ i.length + j.length ≤ sizeLine ∧ Q (.str (i ++ j)) H) ∨ rCat x y H Q ∨ rCatA K x y H Q
theorem op_addA : OpR X (binaryOp .Add) (rAddA X.K) := op_add.or (op_add_str.or (op_cat.or op_catA))
theorem fresh_tmp {K : PySem.W.Frag} {ρ : List Addr} {G : GH} {H : Hp} {p : Addr} {vs : List V} {ws : List W} (r : Rep K ca ρ G H) (hp : H p = none) (q : RelWs K ca ρ H vs ws) : RelT K ca H ρ (upd H p (.lst vs)) (.ref p) (.tmp ws) :=
  ⟨p, vs, rfl, r.fresh hp, hp, upd_same, relWs_ext q r (.laid hp)⟩
theorem relWs_app {K : PySem.W.Frag} {ρ : List Addr} {H : Hp} : ∀ {vs us : List V} {ws zs : List W}, RelWs K ca ρ H vs ws → RelWs K ca ρ H us zs → RelWs K ca ρ H (vs ++ us) (ws ++ zs)
  | _, _, _, _, .nil, h => h
  | _, _, _, _, .cons q t, h => .cons q (relWs_app t h)
theorem relWs_rep {K : PySem.W.Frag} {ρ : List Addr} {H : Hp} {vs : List V} {ws : List W} (h : RelWs K ca ρ H vs ws) : ∀ k : Nat, RelWs K ca ρ H (List.replicate k vs).flatten (repW ws k)
  | 0 => .nil
  | k + 1 => by
    unfold repW
    rw [List.replicate_succ, List.replicate_succ, List.flatten_cons, List.flatten_cons]
    exact relWs_app h (relWs_rep h k)
theorem says_add : Says2 X ca (rAddA X.K) fAdd := by
  intro Wx σ ρ G H H0 x y s t Q r qx qy hp
  unfold fAdd at hp
  split at hp
  · cases qx; cases qy
    exact .inl ⟨_, _, rfl, rfl, hp ρ H .refl r _ (.int _)⟩
  · cases qx; cases qy
    split at hp
    · rename_i z
      exact .inr (.inl ⟨_, _, rfl, rfl, by rw [sizeLine_eq]; exact z, hp ρ H .refl r _ (.str _)⟩)
    · exact hp.elim
  · rename_i G2 xs ys
    split at hp
    · rename_i z2
      have qx' := qx
      have qy' := qy
      obtain ⟨a, vs, rfl, hs, q1⟩ := relW_tup qx
      obtain ⟨b, us, rfl, hs', q2⟩ := relW_tup qy
      have l1 := q1.length
      have l2 := q2.length
      refine .inr (.inr (.inr ⟨a, b, vs, us, rfl, rfl, hs, hs', by rw [sizeLine_eq]; omega, fun e => ?_, fun _ e => ?_, fun _ _ p hn => hp ρ _ (.laid hn) (r.laid hn) _ (RelW.tup' (.of upd_same) (relWs_app (relWs_ext q1 r (.laid hn)) (relWs_ext q2 r (.laid hn))))⟩))
      · subst e
        have : xs = [] := by cases q1; rfl
        subst this
        exact hp ρ H .refl r _ qy'
      · subst e
        have : ys = [] := by cases q2; rfl
        subst this
        rw [List.append_nil] at hp
        exact hp ρ H .refl r _ qx'
    · exact hp.elim
  · cases e1 : wrl s G with
    | none => rw [e1] at hp; exact hp.elim
    | some xs =>
      cases e2 : wrl t G with
      | none => rw [e1, e2] at hp; exact hp.elim
      | some ys =>
        rw [e1, e2] at hp
        dsimp only at hp
        split at hp
        · rename_i z
          obtain ⟨a, vs, rfl, ha, q1⟩ := wrl_of r qx e1
          obtain ⟨b, us, rfl, hb, q2⟩ := wrl_of r qy e2
          have l1 := q1.length
          have l2 := q2.length
          exact .inr (.inr (.inl ⟨a, b, vs, us, rfl, rfl, ha, hb, by rw [sizeLine_eq]; omega, fun p hn => hp ρ _ (.laid hn) (r.laid hn) _ (fresh_tmp r hn (relWs_app q1 q2))⟩))
        · exact hp.elim
def rMulS : R2 := fun x y H Q => ∃ a n, x = .str a ∧ y = .int n ∧ -(2 ^ 63) ≤ n ∧ n < 2 ^ 63 ∧ a.length * n.toNat ≤ 16777216 ∧ (repS a n).length ≤ 16777216 ∧ Q (.str (repS a n)) H
def rMulA (K : PySem.W.Frag) : R2 := fun x y H Q => rI CMulX (fun i j => .int (i * j)) x y H Q ∨ rRep x y H Q ∨ rRepT K x y H Q ∨ rMulS x y H Q ∨ rOneT K x y H Q
theorem op_mulS : OpR X (binaryOp .Mult) rMulS := by
  intro pins s σ H x y v u Q I rx ry h
  obtain ⟨a, n, rfl, rfl, h1, h2, h3, h4, q⟩ := h
  obtain ⟨t, rfl⟩ := rx
  obtain ⟨t', rfl⟩ := ry
  have hsl := sizeLine_eq
  refine PySem.P.mul_str (by rw [decide_eq_false (by omega), decide_eq_false (by omega)]; rfl) (fun hn _ => ?_) (fun hn _ => ?_) ?_
  · have hn' : 0 < n := by omega
    have : (a.length : Int) * n ≤ 2 ^ 63 - 1 := by
      have e : (a.length : Int) * n = ((a.length * n.toNat : Nat) : Int) := by
        rw [Int.natCast_mul, Int.toNat_of_nonneg (by omega)]
      rw [e]; omega
    have := Int.le_ediv_of_mul_le hn' this
    omega
  · unfold Builtin.Str.tooLong
    exact decide_eq_false (by omega)
  · unfold repS at h4 q
    by_cases c1 : n < 1
    · rw [if_pos c1] at h4 q ⊢
      exact ⟨by rw [hsl]; exact h4, .str Str.empty, H, I.tok _, ⟨_, rfl⟩, q⟩
    · rw [if_neg c1] at h4 q ⊢
      by_cases c2 : (n == 1 || a.length == 0) = true
      · rw [if_pos c2] at h4 q ⊢
        exact ⟨.str a, H, I, ⟨_, rfl⟩, q⟩
      · rw [if_neg c2] at h4 q ⊢
        exact ⟨by rw [hsl]; exact h4, .str _, H, I.tok _, ⟨_, rfl⟩, q⟩
theorem op_mulA : OpR X (binaryOp .Mult) (rMulA X.K) := op_mulX.or (op_rep.or (op_repT.or (op_mulS.or op_oneT)))
theorem says_mul : Says2 X ca (rMulA X.K) fMul := by
  intro Wx σ ρ G H H0 x y s t Q r qx qy hp
  unfold fMul at hp
  split at hp
  · cases qx; cases qy
    split at hp
    · rename_i z
      refine .inl ⟨_, _, rfl, rfl, ?_, hp ρ H .refl r _ (.int _)⟩
      have z' := of_decide_eq_true z
      unfold CMulX
      omega
    · exact hp.elim
  · split at hp
    · rename_i z
      subst z
      obtain ⟨a, vs, rfl, hs, q1⟩ := relW_tup qx
      cases qy
      exact .inr (.inr (.inr (.inr ⟨a, vs, rfl, rfl, hs, hp ρ H .refl r _ (RelW.tup' hs q1)⟩)))
    split at hp
    · rename_i z
      rw [Bool.and_eq_true, Bool.and_eq_true, Bool.and_eq_true] at z
      obtain ⟨a, vs, rfl, hs, q1⟩ := relW_tup qx
      cases qy
      have l1 := q1.length
      have n1 : vs ≠ [] := fun e => by subst e; cases q1; simp at z
      refine .inr (.inr (.inl ⟨a, _, vs, rfl, rfl, hs, n1, of_decide_eq_true z.1.1.2, of_decide_eq_true z.1.2, by rw [l1]; exact of_decide_eq_true z.2, fun p hn => hp ρ _ (.laid hn) (r.laid hn) _ (RelW.tup' (.of upd_same) (relWs_rep (relWs_ext q1 r (.laid hn)) _))⟩))
    · exact hp.elim
  · cases qx; cases qy
    split at hp
    · rename_i z
      unfold repOk at z
      rw [Bool.and_eq_true, Bool.and_eq_true, Bool.and_eq_true] at z
      exact .inr (.inr (.inr (.inl ⟨_, _, rfl, rfl, of_decide_eq_true z.1.1.1, of_decide_eq_true z.1.1.2, of_decide_eq_true z.1.2, of_decide_eq_true z.2, hp ρ H .refl r _ (.str _)⟩)))
    · exact hp.elim
  · cases e1 : wrl s G with
    | none => rw [e1] at hp; exact hp.elim
    | some xs =>
      rw [e1] at hp
      dsimp only at hp
      split at hp
      · rename_i z
        rw [Bool.and_eq_true, Bool.and_eq_true] at z
        obtain ⟨a, vs, rfl, ha, q1⟩ := wrl_of r qx e1
        cases qy
        have l1 := q1.length
        refine .inr (.inl ⟨a, _, vs, rfl, rfl, ha, of_decide_eq_true z.1.1, of_decide_eq_true z.1.2, by rw [sizeLine_eq, l1]; exact of_decide_eq_true z.2, fun p hn => hp ρ _ (.laid hn) (r.laid hn) _ (fresh_tmp r hn (relWs_rep q1 _))⟩)
      · exact hp.elim
  · exact hp.elim
end
end Sy
set_option Elab.async false
set_option linter.all false
set_option maxRecDepth 100000
set_option maxHeartbeats 4000000
namespace Sy
open PySem PySem.Spec PyProof.Rows L2

/-! statements by computations -/
def R.toS {α : Type} (r : R α) (τ : Sl) (k : α → GH → RS) : RS := match r with
  | .ok a G => k a G
  | .ex c fs G => .ex c fs τ G
  | .bad => .bad
@[simp] theorem R.toS_ok {α : Type} (a : α) (G : GH) (τ : Sl) (k : α → GH → RS) : (R.ok a G).toS τ k = k a G := (rfl)
@[simp] theorem R.toS_ex {α : Type} (c : Nat) (fs) (G : GH) (τ : Sl) (k : α → GH → RS) : (R.ex c fs G : R α).toS τ k = .ex c fs τ G := (rfl)
@[simp] theorem R.toS_bad {α : Type} (τ : Sl) (k : α → GH → RS) : (R.bad : R α).toS τ k = .bad := (rfl)
def RS.andThen (r : RS) (k : MS) : RS := match r with
  | .nx τ G => k τ G
  | r => r
@[simp] theorem RS.then_nx (τ : Sl) (G : GH) (k : MS) : (RS.nx τ G).andThen k = k τ G := (rfl)
@[simp] theorem RS.then_rt (w : W) (G : GH) (k : MS) : (RS.rt w G).andThen k = .rt w G := (rfl)
@[simp] theorem RS.then_bk (τ : Sl) (G : GH) (k : MS) : (RS.bk τ G).andThen k = .bk τ G := (rfl)
@[simp] theorem RS.then_ct (τ : Sl) (G : GH) (k : MS) : (RS.ct τ G).andThen k = .ct τ G := (rfl)
@[simp] theorem RS.then_ex (c fs) (τ : Sl) (G : GH) (k : MS) : (RS.ex c fs τ G).andThen k = .ex c fs τ G := (rfl)
@[simp] theorem RS.then_bad (k : MS) : RS.bad.andThen k = .bad := (rfl)
def sNext : MS := fun τ G => .nx τ G
def sSeq (a b : MS) : MS := fun τ G => (a τ G).andThen b
def sDrop (m : M T) : MS := fun τ G => (m τ G).toS τ fun _ G1 => .nx τ G1
def sRet (m : M T) : MS := fun τ G => (mF m τ G).toS τ fun w G1 => .rt w G1
def sRetN : MS := fun τ G => .rt .non G
def sBrk : MS := fun τ G => .bk τ G
def sCt : MS := fun τ G => .ct τ G
def sIf (c : M Bool) (a b : MS) : MS := fun τ G => (c τ G).toS τ fun x G1 => if x then a τ G1 else b τ G1
def sSet (i : Nat) (m : M T) : MS := fun τ G => (mF m τ G).toS τ fun w G1 => .nx (τ.set i (some w)) G1
def sAug (i : Nat) (f : T → T → GH → R T) (m : M T) : MS := fun τ G => (mVar i τ G).toS τ fun x G0 => (m τ G0).toS τ fun y G1 => ((f x y G1).bind force).toS τ fun w G2 => .nx (τ.set i (some w)) G2

section
variable {X : Cx} {ca : Nat → Addr} {Wx : WX} {D : Ends} {σ : SSt} {H : Hp} {ρ : List Addr} {G : GH} {τ : Sl}
theorem PostS.of {α : Type} {r : R α} {k : α → GH → RS} (s : RelS X.K ca ρ H σ τ) (r0 : Rep X.K ca ρ G H) (h : PostS X.K ca Wx D ρ H (r.toS τ k)) : Post X.K ca Wx σ ρ H (fun a G1 ρ1 H1 => PostS X.K ca Wx D ρ1 H1 (k a G1)) r := by
  cases r with
  | ok a G1 => exact fun ρ1 H1 x r1 => PostS.later h x
  | ex c fs G1 => exact fun ρ1 H1 d x r1 e => h ρ1 H1 d σ x r1 (s.ext r0 x) e
  | bad => exact h
theorem tE.seqS {m : M T} {k : T → GH → RS} {Q : VK} (r : Rep X.K ca ρ G H) (s : RelS X.K ca ρ H σ τ) (h : PostS X.K ca Wx D ρ H ((m τ G).toS τ k))
    (hk : ∀ t G1 ρ1 H1 v, Ext ρ H ρ1 H1 → Rep X.K ca ρ1 G1 H1 → RelS X.K ca ρ1 H1 σ τ → RelT X.K ca H ρ1 H1 v t → PostS X.K ca Wx D ρ1 H1 (k t G1) → Q v H1) : tE X.K ca Wx m σ H Q :=
  ⟨ρ, G, τ, r, s, (PostS.of s r h).imp fun t G1 ρ1 H1 x r1 q v rv => hk t G1 ρ1 H1 v x r1 (s.ext r x) rv q⟩
theorem tT.seqS {m : M Bool} {k : Bool → GH → RS} {Q : Bool → Hp → Prop} (r : Rep X.K ca ρ G H) (s : RelS X.K ca ρ H σ τ) (h : PostS X.K ca Wx D ρ H ((m τ G).toS τ k))
    (hk : ∀ b G1 ρ1 H1, Ext ρ H ρ1 H1 → Rep X.K ca ρ1 G1 H1 → RelS X.K ca ρ1 H1 σ τ → PostS X.K ca Wx D ρ1 H1 (k b G1) → Q b H1) : tT X.K ca Wx m σ H Q :=
  ⟨ρ, G, τ, r, s, (PostS.of s r h).imp fun b G1 ρ1 H1 x r1 q => hk b G1 ρ1 H1 x r1 (s.ext r x) q⟩
theorem forceS_ok {t1 : T} {G1 : GH} {ρ0 ρ1 : List Addr} {H0 H1 : Hp} {v1 : V} {k : W → GH → RS} (x : Ext ρ0 H0 ρ1 H1) (r1 : Rep X.K ca ρ1 G1 H1) (q1 : RelT X.K ca H0 ρ1 H1 v1 t1) (h : PostS X.K ca Wx D ρ0 H0 ((force t1 G1).toS τ k)) :
    ∃ w G2 ρ2, Ext ρ0 H0 ρ2 H1 ∧ Rep X.K ca ρ2 G2 H1 ∧ RelW X.K ca ρ2 H1 v1 w ∧ (∀ (n : Nat) a, ρ1[n]? = some a → ρ2[n]? = some a) ∧ PostS X.K ca Wx D ρ2 H1 (k w G2) := by
  cases t1 with
  | val w => exact ⟨w, G1, ρ1, x, r1, q1, fun _ _ e => e, PostS.later h x⟩
  | tmp ws =>
    obtain ⟨p, vs, e, hn, h0, hp, hv⟩ := q1
    subst e
    have y := x.take h0
    refine ⟨.loc G1.length, G1 ++ [.lst ws], ρ1 ++ [p], y, r1.take hn hp hv, .loc ?_, fun n a e => ?_, PostS.later h y⟩
    · rw [← r1.len]
      simp
    · rw [List.getElem?_append_left (List.getElem?_eq_some_iff.mp e).1]; exact e
theorem tE.seqFS {m : M T} {k : W → GH → RS} {Q : VK} (r : Rep X.K ca ρ G H) (s : RelS X.K ca ρ H σ τ) (h : PostS X.K ca Wx D ρ H ((mF m τ G).toS τ k))
    (hk : ∀ w G1 ρ1 H1 v, Ext ρ H ρ1 H1 → Rep X.K ca ρ1 G1 H1 → RelS X.K ca ρ1 H1 σ τ → RelW X.K ca ρ1 H1 v w → PostS X.K ca Wx D ρ1 H1 (k w G1) → Q v H1) : tE X.K ca Wx m σ H Q := by
  have h2 : PostS X.K ca Wx D ρ H ((m τ G).toS τ fun t G1 => (force t G1).toS τ k) := by
    unfold mF at h
    cases e : m τ G with
    | ok t G1 => rw [e] at h; exact h
    | ex c fs G1 => rw [e] at h; exact h
    | bad => rw [e] at h; exact h
  refine ⟨ρ, G, τ, r, s, ?_⟩
  cases e : m τ G with
  | ok t G1 =>
    rw [e] at h2
    intro ρ1 H1 x1 r1 v q1
    obtain ⟨w, G2, ρ2, y, r2, q2, pre, h3⟩ := forceS_ok x1 r1 q1 h2
    exact hk w G2 ρ2 H1 v y r2 ((s.ext r x1).pre pre) q2 h3
  | ex c fs G1 =>
    rw [e] at h2
    exact PostS.of (k := fun t G1 => (force t G1).toS τ k) (r := .ex c fs G1) s r h2
  | bad => rw [e] at h2; exact h2

variable {st : Stmt} {rest : List Stmt} {e : Expr} {m1 m2 : MS} {m : M T} {pos : Pos}
theorem b_nil : PSs X [] (tS X.K ca Wx sNext) := PSs.weak pss_nil fun D σ H ⟨ρ, G, τ, r, s, h⟩ => h ρ H σ .refl r s
theorem b_cons (h1 : PS X st (tS X.K ca Wx m1)) (h2 : PSs X rest (tS X.K ca Wx m2)) : PSs X (st :: rest) (tS X.K ca Wx (sSeq m1 m2)) := by
  refine PSs.weak (pss_cons h1 h2) fun D σ H ⟨ρ, G, τ, r, s, h⟩ => ⟨ρ, G, τ, r, s, ?_⟩
  unfold sSeq at h
  cases e : m1 τ G with
  | nx τ1 G1 => rw [e] at h; exact fun ρ' H' σ' x r' s' => ⟨ρ', G1, τ1, r', s', PostS.later h x⟩
  | rt w G1 => rw [e] at h; exact h
  | bk τ1 G1 => rw [e] at h; exact h
  | ct τ1 G1 => rw [e] at h; exact h
  | ex c fs τ1 G1 => rw [e] at h; exact h
  | bad => rw [e] at h; exact h
theorem b_one (h1 : PS X st (tS X.K ca Wx m1)) : PSs X [st] (tS X.K ca Wx m1) := pss_one h1
theorem s_pass : PS X (.Pass pos) (tS X.K ca Wx sNext) := PS.weak ps_pass fun D σ H ⟨ρ, G, τ, r, s, h⟩ => h ρ H σ .refl r s
theorem s_doc {x j pos pos'} : PS X (.Expr (.Constant (.str x) j pos) pos') (tS X.K ca Wx sNext) := PS.weak ps_doc fun D σ H ⟨ρ, G, τ, r, s, h⟩ => h ρ H σ .refl r s
theorem s_break : PS X (.Break pos) (tS X.K ca Wx sBrk) := PS.weak ps_break fun D σ H ⟨ρ, G, τ, r, s, h⟩ => h ρ H σ .refl r s
theorem s_continue : PS X (.Continue pos) (tS X.K ca Wx sCt) := PS.weak ps_continue fun D σ H ⟨ρ, G, τ, r, s, h⟩ => h ρ H σ .refl r s
theorem s_expr (he : PE X e (tE X.K ca Wx m)) (hs : swapsWith e none pos.line X.env = pure false := by rfl) : PS X (.Expr e pos) (tS X.K ca Wx (sDrop m)) := by
  refine PS.weak (ps_expr he hs) fun D σ H ⟨ρ, G, τ, r, s, h⟩ => ?_
  exact tE.seqS r s h fun t G1 ρ1 H1 v x1 r1 s1 q1 h1 => h1 ρ1 H1 σ .refl r1 s1
theorem s_ret (he : PE X e (tE X.K ca Wx m)) : PS X (.Return (some e) pos) (tS X.K ca Wx (sRet m)) := by
  refine PS.weak (ps_ret he) fun D σ H ⟨ρ, G, τ, r, s, h⟩ => ?_
  exact tE.seqFS r s h fun w G1 ρ1 H1 v x1 r1 s1 q1 h1 => h1 ρ1 H1 v .refl r1 q1
theorem s_retN : PS X (.Return none pos) (tS X.K ca Wx sRetN) := PS.weak ps_retN fun D σ H ⟨ρ, G, τ, r, s, h⟩ => h ρ H .non .refl r .non
theorem s_if {c : Expr} {a b : List Stmt} {mc : M Bool} (hc : PT X c (tT X.K ca Wx mc)) (ha : PSs X a (tS X.K ca Wx m1)) (hb : PSs X b (tS X.K ca Wx m2)) : PS X (.If c a b pos) (tS X.K ca Wx (sIf mc m1 m2)) := by
  refine PS.weak (ps_if hc ha hb) fun D σ H ⟨ρ, G, τ, r, s, h⟩ => ?_
  refine tT.seqS r s h fun b G1 ρ1 H1 x1 r1 s1 h1 => ?_
  cases b with
  | true => exact ⟨ρ1, G1, τ, r1, s1, h1⟩
  | false => exact ⟨ρ1, G1, τ, r1, s1, h1⟩
theorem set_of {i : Nat} {D : Ends} {σ : SSt} {H : Hp} (h : tS X.K ca Wx (sSet i m) D σ H) : tAsg (tE X.K ca Wx m) (gName i) D σ H := by
  obtain ⟨ρ, G, τ, r, s, h⟩ := h
  exact tE.seqFS r s h fun w G1 ρ1 H1 v x1 r1 s1 q1 h1 => h1 ρ1 H1 _ .refl r1 (s1.set i q1)
theorem s_set {i : Nat} {x : Str} {pos' : Pos} (hN : X.N.Nodup) (hi : X.N[i]? = some x) (hx : Loc X.env.scope x) (he : PE X e (tE X.K ca Wx m)) (hs : swapsWith e (some (.Name x pos')) pos.line X.env = pure false := by rfl)
    (hf : X.fn x = true ∨ X.env.scope.names.lookup x = some .local := by first | exact .inl rfl | exact .inr rfl | assumption) : PS X (.Assign [.Name x pos'] e pos) (tS X.K ca Wx (sSet i m)) :=
  PS.weak (ps_set hN hi hx he hs hf) fun D σ H h => set_of h
/-- x op= e, by values -/
def SaysIp (X : Cx) (ca : Nat → Addr) (r : TIp) (f : T → T → GH → R T) : Prop := Says2 X ca r f
theorem mVar_ok {α : Type} {i : Nat} {k : T → GH → RS} (s : RelS X.K ca ρ H σ τ) (h : PostS X.K ca Wx D ρ H ((mVar i τ G).toS τ k)) : ∃ w v, τ[i]? = some (some w) ∧ σ[i]? = some (some v) ∧ RelW X.K ca ρ H v w ∧ PostS X.K ca Wx D ρ H (k (.val w) G) := by
  unfold mVar at h
  cases e : τ[i]? with
  | none => rw [e] at h; exact h.elim
  | some o =>
    cases o with
    | none => rw [e] at h; exact h.elim
    | some w =>
      rw [e] at h
      obtain ⟨v, e1, q⟩ := s.2 i w e
      exact ⟨w, v, rfl, e1, q, h⟩
theorem s_aug {i : Nat} {x : Str} {op : Operator} {ti : TIp} {f : T → T → GH → R T} {pos' : Pos} (hN : X.N.Nodup) (hi : X.N[i]? = some x) (hx : Loc X.env.scope x) (he : PE X e (tE X.K ca Wx m)) (ho : PIp X op ti) (hs : Says2 X ca ti f)
    (hf : X.fn x = true ∨ X.env.scope.names.lookup x = some .local := by first | exact .inl rfl | exact .inr rfl | assumption) :
    PS X (.AugAssign (.Name x pos') op e pos) (tS X.K ca Wx (sAug i f m)) := by
  refine PS.weak (ps_aug hN hi hx he ho hf) fun D σ H ⟨ρ, G, τ, r, s, h⟩ => ?_
  obtain ⟨w, v, _, e1, q, h⟩ := mVar_ok (α := T) s h
  refine ⟨v, e1, tE.seqS r s h fun t G1 ρ1 H1 y x1 r1 s1 q1 h1 => ?_⟩
  refine hs Wx σ ρ1 G1 H1 H v y (.val w) t _ r1 (q.ext r x1) q1 ?_
  -- the sum, forced
  cases e : f (.val w) t G1 with
  | ok u G2 =>
    rw [e] at h1
    intro ρ2 H2 x2 r2 z qz
    obtain ⟨w3, G3, ρ3, y3, r3, q3, pre, h3⟩ := forceS_ok x2 r2 qz h1
    exact h3 ρ3 H2 _ .refl r3 (((s1.ext r1 x2).pre pre).set i q3)
  | ex c fs G2 => rw [e] at h1; exact PostS.of (k := fun w G2 => .nx (τ.set i (some w)) G2) (r := .ex c fs G2) s1 r1 h1
  | bad => rw [e] at h1; exact h1
end

/-! while -/
def whileF (c : M Bool) (b : MS) : Nat → Sl → GH → RS
  | 0, _, _ => .bad
  | f + 1, τ, G => (c τ G).toS τ fun x G1 => if x then match b τ G1 with
      | .nx τ2 G2 => whileF c b f τ2 G2
      | .ct τ2 G2 => whileF c b f τ2 G2
      | .bk τ2 G2 => .nx τ2 G2
      | .rt w G2 => .rt w G2
      | .ex e fs τ2 G2 => .ex e fs τ2 G2
      | .bad => .bad
    else .nx τ G1
section
variable {X : Cx} {ca : Nat → Addr} {Wx : WX} {pos : Pos}
theorem s_while {c : Expr} {body : List Stmt} {mc : M Bool} {mb : MS} {n : Nat} (hp : PassesOwn (model X.prog X.w) X.A X.env X.xe) (hc : PT X c (tT X.K ca Wx mc)) (hb : PSs X body (tS X.K ca Wx mb)) :
    PS X (.While c body [] pos) (tS X.K ca Wx (whileF mc mb n)) := by
  refine PS.weak (ps_while hp hc hb) fun D σ H ⟨ρ, G, τ, r, s, h⟩ => ?_
  refine ⟨fun m σ H => ∃ ρ G τ, Rep X.K ca ρ G H ∧ RelS X.K ca ρ H σ τ ∧ PostS X.K ca Wx D ρ H (whileF mc mb m τ G), ⟨n, ρ, G, τ, r, s, h⟩, ?_⟩
  rintro m σ1 H1 ⟨ρ1, G1, τ1, r1, s1, h1⟩
  cases m with
  | zero => exact h1.elim
  | succ m =>
    refine tT.seqS r1 s1 h1 fun b G2 ρ2 H2 x2 r2 s2 h2 => ?_
    cases b with
    | false =>
      rw [if_neg Bool.false_ne_true] at h2 ⊢
      exact h2 ρ2 H2 σ1 .refl r2 s2
    | true =>
      rw [if_pos rfl] at h2 ⊢
      refine ⟨fun σ' H' => ∃ ρ G τ, Rep X.K ca ρ G H' ∧ RelS X.K ca ρ H' σ' τ ∧ PostS X.K ca Wx D ρ H' (whileF mc mb m τ G), fun σ' H' hw => ⟨m, Nat.lt_succ_self m, hw⟩, ρ2, G2, τ1, r2, s2, ?_⟩
      cases e : mb τ1 G2 with
      | nx τ3 G3 => rw [e] at h2; exact fun ρ' H' σ' x r s => ⟨ρ', G3, τ3, r, s, PostS.later h2 x⟩
      | ct τ3 G3 => rw [e] at h2; exact fun ρ' H' σ' x r s => ⟨ρ', G3, τ3, r, s, PostS.later h2 x⟩
      | bk τ3 G3 => rw [e] at h2; exact h2
      | rt w G3 => rw [e] at h2; exact h2
      | ex c fs τ3 G3 => rw [e] at h2; exact h2
      | bad => rw [e] at h2; exact h2
end

/-! what a for walks: the items, and the lists that must stand still -/
abbrev Src := List (Nat × List W)
open Classical in
noncomputable def still (src : Src) (G : GH) : Bool := decide (∀ p ∈ src, G[p.1]?.bind GO.rd = some p.2)
open Classical in
theorem still_iff {src : Src} {G : GH} : still src G = true ↔ ∀ p ∈ src, G[p.1]?.bind GO.rd = some p.2 := by
  unfold still
  exact decide_eq_true_iff
@[simp] theorem still_nil {G : GH} : still [] G = true := still_iff.mpr fun _ h => by cases h
section
variable (K : PySem.W.Frag) (ca : Nat → Addr)
/-- the walk J yields these items while the lists stand still -/
def ItOk (J : It) (its : List W) (src : Src) (ρ : List Addr) (H : Hp) : Prop :=
  ∀ (i : Nat) ρ' (G' : GH) H', Ext ρ H ρ' H' → Rep K ca ρ' G' H' → still src G' = true →
    (∀ w, its[i]? = some w → J.go i H' ∧ ∀ x H2, J.yld i H' x H2 → Ext ρ' H' ρ' H2 ∧ Rep K ca ρ' G' H2 ∧ RelW K ca ρ' H2 x w) ∧ (its.length ≤ i → J.stop i H')
def tI (Wx : WX) (m : M (List W × Src)) : TI := fun σ H R => ∃ ρ G τ, Rep K ca ρ G H ∧ RelS K ca ρ H σ τ ∧
  Post K ca Wx σ ρ H (fun p _ ρ' H' => ∀ J, ItOk K ca J p.1 p.2 ρ' H' → R J H') (m τ G)
end
/-- a target -/
abbrev MG := W → Sl → Option Sl
def tG (K : PySem.W.Frag) (ca : Nat → Addr) (g : MG) : TG := fun v σ H Q => ∃ ρ G τ w, Rep K ca ρ G H ∧ RelS K ca ρ H σ τ ∧ RelW K ca ρ H v w ∧ ∃ τ', g w τ = some τ' ∧ ∀ ρ' H' σ', Ext ρ H ρ' H' → Rep K ca ρ' G H' → RelS K ca ρ' H' σ' τ' → Q σ' H'
noncomputable def forL (src : Src) (g : MG) (b : MS) : List W → Sl → GH → RS
  | [], τ, G => if still src G then .nx τ G else .bad
  | w :: ws, τ, G => if still src G then match g w τ with
      | none => .bad
      | some τ1 => match b τ1 G with
        | .nx τ2 G2 => forL src g b ws τ2 G2
        | .ct τ2 G2 => forL src g b ws τ2 G2
        | .bk τ2 G2 => .nx τ2 G2
        | .rt w G2 => .rt w G2
        | .ex e fs τ2 G2 => .ex e fs τ2 G2
        | .bad => .bad
    else .bad
noncomputable def sFor (m : M (List W × Src)) (g : MG) (b : MS) : MS := fun τ G => (m τ G).toS τ fun p G1 => forL p.2 g b p.1 τ G1
def gN (i : Nat) : MG := fun w τ => some (τ.set i (some w))
section
variable {X : Cx} {ca : Nat → Addr} {Wx : WX} {pos : Pos}
theorem g_name {i : Nat} {x : Str} (hN : X.N.Nodup) (hi : X.N[i]? = some x) (hx : Loc X.env.scope x) (hf : X.fn x = true ∨ X.env.scope.names.lookup x = some .local := by first | exact .inl rfl | exact .inr rfl | assumption) : PG X (.Name x pos) (tG X.K ca (gN i)) := by
  refine ⟨fun pins s σ H v u Q I rv h => (pg_name hN hi hx hf).run pins s σ H v u Q I rv ?_⟩
  obtain ⟨ρ, G, τ, w, r, s, q, τ', e, h⟩ := h
  cases e
  exact h ρ H _ .refl r (s.set i q)
theorem s_for {tg iter : Expr} {body : List Stmt} {mi : M (List W × Src)} {g : MG} {mb : MS} (hp : PassesOwn (model X.prog X.w) X.A X.env X.xe) (hc : X.calm = true) (hi : PI X tg iter (tI X.K ca Wx mi)) (hg : PG X tg (tG X.K ca g)) (hb : PSs X body (tS X.K ca Wx mb))
    (hs : ∀ x, foldedSetIterable iter X.env x = pure x := by intro _; rfl) : PS X (.For tg iter body [] pos) (tS X.K ca Wx (sFor mi g mb)) := by
  refine PS.weak (ps_for hp hc hi hg hb hs) fun D σ H ⟨ρ, G, τ, r, s, h⟩ => ?_
  refine ⟨ρ, G, τ, r, s, (PostS.of s r h).imp fun p G1 ρ1 H1 x1 r1 h1 J hJ => ?_⟩
  obtain ⟨its, src⟩ := p
  refine ⟨fun i m σ' H' => m = its.length - i ∧ i ≤ its.length ∧ ∃ ρ' G' τ', Ext ρ1 H1 ρ' H' ∧ Rep X.K ca ρ' G' H' ∧ RelS X.K ca ρ' H' σ' τ' ∧ PostS X.K ca Wx D ρ' H' (forL src g mb (its.drop i) τ' G'),
    ⟨its.length, rfl, Nat.zero_le _, ρ1, G1, τ, .refl, r1, s.ext r x1, h1⟩, ?_⟩
  rintro i m σ2 H2 ⟨rfl, hi, ρ2, G2, τ2, x2, r2, s2, h2⟩
  by_cases hlt : i < its.length
  · rw [List.drop_eq_getElem_cons hlt] at h2
    unfold forL at h2
    cases hs : still src G2 with
    | false => rw [hs] at h2; exact h2.elim
    | true =>
      rw [hs, if_pos rfl] at h2
      obtain ⟨hgo, _⟩ := hJ i ρ2 G2 H2 x2 r2 hs
      obtain ⟨go, yl⟩ := hgo its[i] (List.getElem?_eq_getElem hlt)
      refine .inr ⟨go, fun σ' H' => ∃ ρ' G' τ', Ext ρ1 H1 ρ' H' ∧ Rep X.K ca ρ' G' H' ∧ RelS X.K ca ρ' H' σ' τ' ∧ PostS X.K ca Wx D ρ' H' (forL src g mb (its.drop (i + 1)) τ' G'),
        fun σ' H' hw => ⟨its.length - (i + 1), by omega, rfl, hlt, hw⟩, fun x H3 hy => ?_⟩
      obtain ⟨x3, r3, q3⟩ := yl x H3 hy
      cases e : g its[i] τ2 with
      | none => rw [e] at h2; exact h2.elim
      | some τ3 =>
        rw [e] at h2
        refine ⟨ρ2, G2, τ2, its[i], r3, s2.ext r2 x3, q3, τ3, e, fun ρ4 H4 σ4 x4 r4 s4 => ⟨ρ4, G2, τ3, r4, s4, ?_⟩⟩
        have x04 := (x2.trans x3).trans x4
        have x24 := x3.trans x4
        dsimp only at h2
        cases eb : mb τ3 G2 with
        | nx τ5 G5 => rw [eb] at h2; exact fun ρ' H' σ' x r s => ⟨ρ', G5, τ5, x04.trans x, r, s, PostS.later h2 (x24.trans x)⟩
        | ct τ5 G5 => rw [eb] at h2; exact fun ρ' H' σ' x r s => ⟨ρ', G5, τ5, x04.trans x, r, s, PostS.later h2 (x24.trans x)⟩
        | bk τ5 G5 => rw [eb] at h2; exact PostS.later (r := .nx τ5 G5) h2 x24
        | rt w G5 => rw [eb] at h2; exact PostS.later (r := .rt w G5) h2 x24
        | ex c fs τ5 G5 => rw [eb] at h2; exact PostS.later (r := .ex c fs τ5 G5) h2 x24
        | bad => rw [eb] at h2; exact h2
  · have e : i = its.length := by omega
    subst e
    rw [List.drop_length] at h2
    unfold forL at h2
    cases hs : still src G2 with
    | false => rw [hs] at h2; exact h2.elim
    | true =>
      rw [hs, if_pos rfl] at h2
      obtain ⟨_, hst⟩ := hJ its.length ρ2 G2 H2 x2 r2 hs
      exact .inl ⟨hst (Nat.le_refl _), h2 ρ2 H2 σ2 .refl r2 s2⟩
/-! what is walked -/
def srcOf : T → List W → Src
  | .val (.loc n), ws => [(n, ws)]
  | _, _ => []
def iterL (t : T) (G : GH) : R (List W × Src) := match rdl t G with
  | some ws => .ok (ws, srcOf t ws) G
  | none => .bad
def miL (m : M T) : M (List W × Src) := fun τ G => (m τ G).bind iterL
theorem still_one {n : Nat} {ws : List W} {G : GH} (h : still [(n, ws)] G = true) : G[n]?.bind GO.rd = some ws := by
  exact still_iff.mp h (n, ws) (List.mem_singleton.mpr rfl)
/-- the list stays to be read -/
theorem rdl_later {K : PySem.W.Frag} {ρ ρ' : List Addr} {G G' : GH} {H0 H H' : Hp} {v : V} {t : T} {ws : List W} (q : RelT K ca H0 ρ H v t) (h : rdl t G = some ws) (r : Rep K ca ρ G H) (x : Ext ρ H ρ' H') (r' : Rep K ca ρ' G' H') (hs : still (srcOf t ws) G' = true) :
    ∃ a vs, v = .ref a ∧ SqL K H' a vs ∧ RelWs K ca ρ' H' vs ws := by
  have h' : rdl t G' = some ws := by
    cases t with
    | tmp us => exact h
    | val w =>
      cases w with
      | loc n => exact still_one hs
      | _ => exact h
  exact rdl_of r' (q.ext r x) h'
theorem itl_ok {K : PySem.W.Frag} {ρ : List Addr} {G : GH} {H0 H : Hp} {a : Addr} {t : T} {ws : List W} (q : RelT K ca H0 ρ H (.ref a) t) (h : rdl t G = some ws) (r : Rep K ca ρ G H) : ItOk K ca (Itl K a) ws (srcOf t ws) ρ H := by
  intro i ρ' G' H' x r' hs
  obtain ⟨b, vs, e, hv, qs⟩ := rdl_later q h r x r' hs
  cases e
  refine ⟨fun w hw => ?_, fun hl => ⟨vs, hv, by rw [qs.length]; exact hl⟩⟩
  obtain ⟨v, e1, q1⟩ := relWs_get qs hw
  refine ⟨⟨vs, v, hv, e1⟩, fun y H2 hy => ?_⟩
  obtain ⟨rfl, hy⟩ := hy
  have e2 := hy vs hv
  rw [e1] at e2
  cases e2
  exact ⟨.refl, r', q1⟩
end
end Sy
set_option Elab.async false
set_option linter.all false
set_option maxRecDepth 100000
set_option maxHeartbeats 4000000
namespace Sy
open PySem PySem.Spec PyProof.Rows L2

/-! walks -/
section
variable {X : Cx} {ca : Nat → Addr} {Wx : WX} {pos : Pos} {tg : Expr}
theorem PI.weak {X : Cx} {tg e : Expr} {t t' : TI} (h : PI X tg e t) (f : ∀ σ H R, t' σ H R → t σ H R) : PI X tg e t' := ⟨fun pins s σ H R I q => h.run pins s σ H R I (f σ H R q)⟩
theorem it_lst {pins : List (Addr × Obj)} {σ : SSt} {H : Hp} {s : Shared} {R : It → Hp → Prop} {a : Addr} {vs : List V} (I : Inv X pins σ H s) (hq : SqL X.K H a vs) (q : R (Itl X.K a) H) :
    wpAny (model X.prog X.w) X.A (pyIter (.ref a)) (PIE X pins σ tg R) X.xe s := by
  obtain ⟨its, rv, p, hz⟩ := I.list hq
  refine wpAny_pyIter_list p.isList ?_
  have J : Inv X pins σ H { s with heap := s.heap.push { cls := .type "list_iterator", data := .fields #[.ref a, rawInt 0] } } := I.kept (t' := s.toks) fun b o e => Heap.get?_push_of_some _ e
  refine ⟨s.heap.objs.size, [s.heap.objs.size], _, _, H, rfl, J, turn_list a _, ⟨_, Heap.get?_push_size _ rfl, rfl, rfl⟩, fun b hb => ?_, q⟩
  obtain rfl : b = s.heap.objs.size := by simpa using hb
  exact I.fpOk (Nat.le_refl _) (I.hok.fresh (Nat.le_refl _))
theorem it_tpl {pins : List (Addr × Obj)} {σ : SSt} {H : Hp} {s : Shared} {R : It → Hp → Prop} {a : Addr} {vs : List V} (I : Inv X pins σ H s) (hq : SqT X.K H a vs) (q : R (Itt X.K a) H) :
    wpAny (model X.prog X.w) X.A (pyIter (.ref a)) (PIE X pins σ tg R) X.xe s := by
  obtain ⟨its, rv, p, hz⟩ := I.tuple hq
  refine wpAny_pyIter_tuple (show s.heap.IsTuple a its.toArray from p) ?_
  have J : Inv X pins σ H { s with heap := s.heap.push { cls := .type "tuple_iterator", data := .fields #[.ref a, rawInt 0] } } := I.kept (t' := s.toks) fun b o e => Heap.get?_push_of_some _ e
  refine ⟨s.heap.objs.size, [s.heap.objs.size], _, _, H, rfl, J, turn_tuple a _, ⟨_, Heap.get?_push_size _ rfl, rfl, rfl⟩, fun b hb => ?_, q⟩
  obtain rfl : b = s.heap.objs.size := by simpa using hb
  exact I.fpOk (Nat.le_refl _) (I.hok.fresh (Nat.le_refl _))
theorem it_txt {pins : List (Addr × Obj)} {σ : SSt} {H : Hp} {s : Shared} {R : It → Hp → Prop} {x : Str} {t : Tok} (I : Inv X pins σ H s) (q : R (Its x) H) :
    wpAny (model X.prog X.w) X.A (pyIter (.str x t)) (PIE X pins σ tg R) X.xe s := by
  cases ha : x.cps.all (· < 128)
  · exact wpAny_pyIter_wide ha (pi_one (tk := s.toks) I _ (turn_str _ x t "str_iterator" (.inr rfl)) ⟨_, Heap.get?_push_size _ rfl, rfl, rfl⟩ q)
  · exact wpAny_pyIter_ascii ha (pi_one (tk := s.toks) I _ (turn_str _ x t "str_ascii_iterator" (.inl rfl)) ⟨_, Heap.get?_push_size _ rfl, rfl, rfl⟩ q)
def signsW (x : Str) : List W := x.cps.toList.map fun c => .str ⟨#[c]⟩
/-- a list, a tuple, a text -/
def iterA (t : T) (G : GH) : R (List W × Src) := match t with
  | .tmp ws => .ok (ws, []) G
  | .val w => match w with
    | .tup ws => .ok (ws, []) G
    | .str x => .ok (signsW x, []) G
    | .frl ws => .ok (ws, []) G
    | .loc n => match rdw G (.loc n) with
      | some ws => .ok (ws, [(n, ws)]) G
      | none => .bad
    | _ => .bad
def miA (m : M T) : M (List W × Src) := fun τ G => (m τ G).bind iterA
theorem itt_ok {K : PySem.W.Frag} {ρ : List Addr} {G : GH} {H : Hp} {a : Addr} {vs : List V} {ws : List W} (r : Rep K ca ρ G H) (hv : SqT K H a vs) (q : RelWs K ca ρ H vs ws) : ItOk K ca (Itt K a) ws [] ρ H := by
  intro i ρ' G' H' x r' _
  have hv' := (r.stay x).sqT hv
  have q' := relWs_ext q r x
  refine ⟨fun w hw => ?_, fun hl => ⟨vs, hv', by rw [q.length]; exact hl⟩⟩
  obtain ⟨v, e1, q1⟩ := relWs_get q' hw
  refine ⟨⟨vs, v, hv', e1⟩, fun y H2 hy => ?_⟩
  obtain ⟨rfl, hy⟩ := hy
  have e2 := hy vs hv'
  rw [e1] at e2
  cases e2
  exact ⟨.refl, r', q1⟩
theorem its_ok {K : PySem.W.Frag} {ρ : List Addr} {H : Hp} {x : Str} : ItOk K ca (Its x) (signsW x) [] ρ H := by
  intro i ρ' G' H' e r' _
  have hl : (signsW x).length = x.cps.size := by unfold signsW; simp
  refine ⟨fun w hw => ?_, fun h => by show x.cps.size ≤ i; omega⟩
  have h1 : i < x.cps.size := by rw [← hl]; exact (List.getElem?_eq_some_iff.mp hw).1
  refine ⟨h1, fun y H2 hy => ?_⟩
  obtain ⟨rfl, c, hc, rfl⟩ := hy
  unfold signsW at hw
  rw [List.getElem?_map, Array.getElem?_toList, hc] at hw
  cases hw
  exact ⟨.refl, r', .str _⟩
theorem i_any {e : Expr} {m : M T} (he : PE X e (tE X.K ca Wx m)) : PI X tg e (tI X.K ca Wx (miA m)) := by
  refine ⟨fun pins s σ H R I ⟨ρ, G, τ, r, sl, h⟩ => ?_⟩
  refine thn (he.run pins s σ H (fun v H1 => ∃ ρ1 G1 t, RelT X.K ca H ρ1 H1 v t ∧ Rep X.K ca ρ1 G1 H1 ∧ Post X.K ca Wx σ ρ1 H1 (fun p _ ρ' H' => ∀ J, ItOk X.K ca J p.1 p.2 ρ' H' → R J H') (iterA t G1)) I ?_) fun u s1 hh => ?_
  · exact tE.seq r sl h fun t G1 ρ1 H1 v x1 r1 s1 q1 h1 => ⟨ρ1, G1, t, q1, r1, h1⟩
  · obtain ⟨v, H1, I1, rv, ρ1, G1, t, q1, r1, h1⟩ := hh
    cases t with
    | tmp ws =>
      obtain ⟨p, vs, rfl, hn, h0, hp, qs⟩ := q1
      cases rv
      exact it_lst I1 (.of hp) (h1 ρ1 H1 .refl r1 _ (itl_ok (t := .tmp ws) (H0 := H) ⟨p, vs, rfl, hn, h0, hp, qs⟩ rfl r1))
    | val w =>
      cases w with
      | tup ws =>
        obtain ⟨a, vs, rfl, hv, qs⟩ := relW_tup q1
        cases rv
        exact it_tpl I1 hv (h1 ρ1 H1 .refl r1 _ (itt_ok r1 hv qs))
      | frl ws =>
        obtain ⟨a, vs, rfl, hv, qs⟩ := relW_frl q1
        cases rv
        exact it_lst I1 hv.sq (h1 ρ1 H1 .refl r1 _ (itl_ok (t := .val (.frl ws)) (H0 := H) q1 rfl r1))
      | str x =>
        cases q1
        obtain ⟨t, rfl⟩ := rv
        exact it_txt I1 (h1 ρ1 H1 .refl r1 _ its_ok)
      | loc n =>
        cases e : rdw G1 (.loc n) with
        | none =>
          have h1' : Post X.K ca Wx σ ρ1 H1 (fun (p : List W × Src) _ ρ' H' => ∀ J, ItOk X.K ca J p.1 p.2 ρ' H' → R J H') (match rdw G1 (.loc n) with | some ws => .ok (ws, [(n, ws)]) G1 | none => .bad) := h1
          rw [e] at h1'
          exact h1'.elim
        | some ws =>
          have h1' : Post X.K ca Wx σ ρ1 H1 (fun (p : List W × Src) _ ρ' H' => ∀ J, ItOk X.K ca J p.1 p.2 ρ' H' → R J H') (match rdw G1 (.loc n) with | some ws => .ok (ws, [(n, ws)]) G1 | none => .bad) := h1
          rw [e] at h1'
          obtain ⟨a, vs, rfl, hv, qs⟩ := rdw_of r1 q1 e
          cases rv
          exact it_lst I1 hv (h1' ρ1 H1 .refl r1 _ (itl_ok (t := .val (.loc n)) (H0 := H) q1 e r1))
      | _ => exact h1.elim
/-! ranges -/
def rangeW (lo : Int) (n : Nat) : List W := (List.range n).map fun (i : Nat) => .int (lo + (i : Int))
theorem itr_ok {K : PySem.W.Frag} {ρ : List Addr} {H : Hp} {lo : Int} {n : Nat} : ItOk K ca (Itr lo n) (rangeW lo n) [] ρ H := by
  intro i ρ' G' H' e r' _
  have hl : (rangeW lo n).length = n := by unfold rangeW; simp
  refine ⟨fun w hw => ?_, fun h => by show n ≤ i; omega⟩
  have h1 : i < n := by rw [← hl]; exact (List.getElem?_eq_some_iff.mp hw).1
  refine ⟨h1, fun y H2 hy => ?_⟩
  obtain ⟨rfl, rfl⟩ := hy
  unfold rangeW at hw
  rw [List.getElem?_map, List.getElem?_range h1] at hw
  cases hw
  exact ⟨.refl, r', .int _⟩
def in62 (i : Int) : Bool := decide (-(2 ^ 62) ≤ i) && decide (i < 2 ^ 62)
def iterR (ws : List W) (G : GH) : R (List W × Src) := match ws with
  | [.int j] => if in62 j then .ok (rangeW 0 j.toNat, []) G else .bad
  | _ => .bad
def iterR2 (ws : List W) (G : GH) : R (List W × Src) := match ws with
  | [.int i, .int j] => if in62 i && in62 j then .ok (rangeW i (j - i).toNat, []) G else .bad
  | _ => .bad
def miR (m : M (List W)) : M (List W × Src) := fun τ G => (m τ G).bind iterR
def miR2 (m : M (List W)) : M (List W × Src) := fun τ G => (m τ G).bind iterR2
theorem relWs_one {K : PySem.W.Frag} {ρ : List Addr} {H : Hp} {vs : List V} {w : W} (q : RelWs K ca ρ H vs [w]) : ∃ v, vs = [v] ∧ RelW K ca ρ H v w := by
  cases q with
  | cons q t => cases t; exact ⟨_, rfl, q⟩
theorem relWs_two {K : PySem.W.Frag} {ρ : List Addr} {H : Hp} {vs : List V} {w u : W} (q : RelWs K ca ρ H vs [w, u]) : ∃ v z, vs = [v, z] ∧ RelW K ca ρ H v w ∧ RelW K ca ρ H z u := by
  cases q with
  | cons q t =>
    cases t with
    | cons q2 t2 => cases t2; exact ⟨_, _, rfl, q, q2⟩
theorem i_range1 {a : Expr} {m : M (List W)} {p : Pos} (hg : Gl X "range") (hm : X.mg "range" = none) (ha : PA X [a] (tA X.K ca Wx m)) (hs : starEach [a] X.env = [(false, eval a X.env)] := by rfl) : PI X tg (.Call (.Name "range" p) [a] [] pos) (tI X.K ca Wx (miR m)) := by
  refine PI.weak (pi_range1 hg hm ha hs) fun σ H R ⟨ρ, G, τ, r, sl, h⟩ => ?_
  refine tA.seq r sl h fun ws G1 ρ1 H1 vs x1 r1 s1 q1 h1 => ?_
  unfold iterR at h1
  split at h1
  · split at h1
    · rename_i j z
      obtain ⟨v, rfl, qv⟩ := relWs_one q1
      cases qv
      unfold in62 at z
      rw [Bool.and_eq_true] at z
      exact ⟨j, rfl, of_decide_eq_true z.1, of_decide_eq_true z.2, h1 ρ1 H1 .refl r1 _ itr_ok⟩
    · exact h1.elim
  · exact h1.elim
theorem i_range2 {a b : Expr} {m : M (List W)} {p : Pos} (hg : Gl X "range") (hm : X.mg "range" = none) (ha : PA X [a, b] (tA X.K ca Wx m)) (hs : starEach [a, b] X.env = [(false, eval a X.env), (false, eval b X.env)] := by rfl)
    (hs2 : starEach [b] X.env = [(false, eval b X.env)] := by rfl) : PI X tg (.Call (.Name "range" p) [a, b] [] pos) (tI X.K ca Wx (miR2 m)) := by
  refine PI.weak (pi_range2 hg hm ha hs hs2) fun σ H R ⟨ρ, G, τ, r, sl, h⟩ => ?_
  refine tA.seq r sl h fun ws G1 ρ1 H1 vs x1 r1 s1 q1 h1 => ?_
  unfold iterR2 at h1
  split at h1
  · split at h1
    · rename_i i j z
      obtain ⟨v, u, rfl, qv, qu⟩ := relWs_two q1
      cases qv
      cases qu
      unfold in62 at z
      rw [Bool.and_eq_true, Bool.and_eq_true, Bool.and_eq_true] at z
      exact ⟨i, j, rfl, ⟨of_decide_eq_true z.1.1, of_decide_eq_true z.1.2, of_decide_eq_true z.2.1, of_decide_eq_true z.2.2⟩, h1 ρ1 H1 .refl r1 _ itr_ok⟩
    · exact h1.elim
  · exact h1.elim

/-! arguments that nobody holds yet -/
abbrev RelTs (K : PySem.W.Frag) (ca : Nat → Addr) (H0 : Hp) (ρ : List Addr) (H : Hp) (vs : List V) (ts : List T) : Prop := Paired (RelT K ca H0 ρ H) vs ts
def tB (K : PySem.W.Frag) (ca : Nat → Addr) (Wx : WX) (m : M (List T)) : TA := fun σ H Q => ∃ ρ G τ, Rep K ca ρ G H ∧ RelS K ca ρ H σ τ ∧ Post K ca Wx σ ρ H (fun ts _ ρ' H' => ∀ vs, RelTs K ca H ρ' H' vs ts → Q vs H') (m τ G)
def mNilT : M (List T) := fun _ G => .ok [] G
def mConsT (a : M T) (r : M (List T)) : M (List T) := fun τ G => (a τ G).bind fun t G1 => (r τ G1).bind fun ts G2 => .ok (t :: ts) G2
theorem c_nil : PA X [] (tB X.K ca Wx mNilT) := PA.weak pa_nil fun σ H Q ⟨ρ, G, τ, r0, s0, h⟩ => h ρ H .refl r0 [] .nil
theorem c_cons {e : Expr} {es : List Expr} {m : M T} {ms : M (List T)} (he : PE X e (tE X.K ca Wx m)) (hr : PA X es (tB X.K ca Wx ms)) (hs : starEach (e :: es) X.env = (false, eval e X.env) :: starEach es X.env := by rfl) :
    PA X (e :: es) (tB X.K ca Wx (mConsT m ms)) := by
  refine PA.weak (pa_cons he hr hs) fun σ H Q ⟨ρ, G, τ, r0, s0, h⟩ => ?_
  refine tE.seq r0 s0 h fun t G1 ρ1 H1 v x1 r1 s1 q1 h1 => ?_
  refine ⟨ρ1, G1, τ, r1, s1, h1.bind.imp fun ts G2 ρ2 H2 x2 r2 h2 vs qs => ?_⟩
  exact h2 ρ2 H2 .refl r2 (v :: vs) (.cons (q1.ext r1 x2) (paired_imp qs fun _ _ z => z.back x1 x2))
theorem tB.seq {α : Type} {σ : SSt} {ρ : List Addr} {G : GH} {τ : Sl} {H : Hp} {m : M (List T)} {k : List T → GH → R α} {P : α → GH → List Addr → Hp → Prop} {Q : List V → Hp → Prop} (r : Rep X.K ca ρ G H) (s : RelS X.K ca ρ H σ τ) (h : Post X.K ca Wx σ ρ H P ((m τ G).bind k))
    (hk : ∀ ts G1 ρ1 H1 vs, Ext ρ H ρ1 H1 → Rep X.K ca ρ1 G1 H1 → RelS X.K ca ρ1 H1 σ τ → RelTs X.K ca H ρ1 H1 vs ts → Post X.K ca Wx σ ρ1 H1 P (k ts G1) → Q vs H1) : tB X.K ca Wx m σ H Q :=
  ⟨ρ, G, τ, r, s, h.bind.imp fun ws G1 ρ1 H1 x r1 q vs rv => hk ws G1 ρ1 H1 vs x r1 (s.ext r x) rv q⟩
theorem relTs_one {K : PySem.W.Frag} {ρ : List Addr} {H0 H : Hp} {vs : List V} {t : T} (q : RelTs K ca H0 ρ H vs [t]) : ∃ v, vs = [v] ∧ RelT K ca H0 ρ H v t := by
  cases q with
  | cons q t => cases t; exact ⟨_, rfl, q⟩
theorem relTs_two {K : PySem.W.Frag} {ρ : List Addr} {H0 H : Hp} {vs : List V} {t u : T} (q : RelTs K ca H0 ρ H vs [t, u]) : ∃ v z, vs = [v, z] ∧ RelT K ca H0 ρ H v t ∧ RelT K ca H0 ρ H z u := by
  cases q with
  | cons q t =>
    cases t with
    | cons q2 t2 => cases t2; exact ⟨_, _, rfl, q, q2⟩
/-! enumerate, zip, reversed -/
def enumW (ws : List W) : List W := (ws.zipIdx).map fun p => .tup [.int (p.2 : Int), p.1]
def zipW (ws us : List W) : List W := (ws.zip us).map fun p => .tup [p.1, p.2]
def iterE (ts : List T) (G : GH) : R (List W × Src) := match ts with
  | [t] => match rdl t G with
    | some ws => .ok (enumW ws, srcOf t ws) G
    | none => match rdt t with
      | some ws => .ok (enumW ws, []) G
      | none => .bad
  | _ => .bad
def iterZ (ts : List T) (G : GH) : R (List W × Src) := match ts with
  | [t, u] => match rdl t G, rdl u G with
    | some ws, some us => .ok (zipW ws us, srcOf t ws ++ srcOf u us) G
    | _, _ => match rdt t, rdt u with
      | some ws, some us => .ok (zipW ws us, []) G
      | _, _ => .bad
  | _ => .bad
def iterV (ts : List T) (G : GH) : R (List W × Src) := match ts with
  | [t] => match rdl t G with
    | some ws => .ok (ws.reverse, srcOf t ws) G
    | none => .bad
  | _ => .bad
def miB (f : List T → GH → R (List W × Src)) (m : M (List T)) : M (List W × Src) := fun τ G => (m τ G).bind f
theorem pair_new {K : PySem.W.Frag} {ρ : List Addr} {G : GH} {H : Hp} {p : Addr} {x y : V} {w u : W} (r : Rep K ca ρ G H) (hp : H p = none) (q : RelW K ca ρ H x w) (q2 : RelW K ca ρ H y u) :
    Ext ρ H ρ (upd H p (.tup [x, y])) ∧ Rep K ca ρ G (upd H p (.tup [x, y])) ∧ RelW K ca ρ (upd H p (.tup [x, y])) (.ref p) (.tup [w, u]) :=
  ⟨.laid hp, r.laid hp, RelW.tup' (.of upd_same) (.cons (q.ext r (.laid hp)) (.cons (q2.ext r (.laid hp)) .nil))⟩
theorem ite_ok {K : PySem.W.Frag} {ρ : List Addr} {G : GH} {H0 H : Hp} {a : Addr} {t : T} {ws : List W} (q : RelT K ca H0 ρ H (.ref a) t) (h : rdl t G = some ws) (r : Rep K ca ρ G H) : ItOk K ca (Ite K a) (enumW ws) (srcOf t ws) ρ H := by
  intro i ρ' G' H' x r' hs
  obtain ⟨b, vs, e, hv, qs⟩ := rdl_later q h r x r' hs
  cases e
  have hl : (enumW ws).length = ws.length := by unfold enumW; simp
  refine ⟨fun w hw => ?_, fun hl' => ⟨vs, hv, by rw [qs.length]; omega⟩⟩
  unfold enumW at hw
  rw [List.getElem?_map, List.getElem?_zipIdx] at hw
  cases e0 : ws[i]? with
  | none => rw [e0] at hw; cases hw
  | some w0 =>
    rw [e0] at hw
    have hw' : W.tup [.int ((0 + i : Nat) : Int), w0] = w := by simpa using hw
    obtain ⟨v, e1, q1⟩ := relWs_get qs e0
    refine ⟨⟨vs, v, hv, e1⟩, fun y H2 hy => ?_⟩
    obtain ⟨T, z, rfl, hT, rfl, hy⟩ := hy
    have e2 := hy vs hv
    rw [e1] at e2
    cases e2
    rw [← hw', Nat.zero_add]
    exact pair_new r' hT (.int _) q1
theorem iteT_ok {K : PySem.W.Frag} {ρ : List Addr} {G : GH} {H : Hp} {a : Addr} {vs : List V} {ws : List W} (r : Rep K ca ρ G H) (hv : SqT K H a vs) (q : RelWs K ca ρ H vs ws) : ItOk K ca (IteT K a) (enumW ws) [] ρ H := by
  intro i ρ' G' H' x r' _
  have hv' := (r.stay x).sqT hv
  have qs := relWs_ext q r x
  have hl : (enumW ws).length = ws.length := by unfold enumW; simp
  refine ⟨fun w hw => ?_, fun hl' => ⟨vs, hv', by rw [qs.length]; omega⟩⟩
  unfold enumW at hw
  rw [List.getElem?_map, List.getElem?_zipIdx] at hw
  cases e0 : ws[i]? with
  | none => rw [e0] at hw; cases hw
  | some w0 =>
    rw [e0] at hw
    have hw' : W.tup [.int ((0 + i : Nat) : Int), w0] = w := by simpa using hw
    obtain ⟨v, e1, q1⟩ := relWs_get qs e0
    refine ⟨⟨vs, v, hv', e1⟩, fun y H2 hy => ?_⟩
    obtain ⟨T, z, rfl, hT, rfl, hy⟩ := hy
    have e2 := hy vs hv'
    rw [e1] at e2
    cases e2
    rw [← hw', Nat.zero_add]
    exact pair_new r' hT (.int _) q1
theorem itzT_ok {K : PySem.W.Frag} {ρ : List Addr} {G : GH} {H : Hp} {a b : Addr} {vs us : List V} {ws xs : List W} (r : Rep K ca ρ G H) (hv : SqT K H a vs) (q : RelWs K ca ρ H vs ws) (hu : SqT K H b us) (p : RelWs K ca ρ H us xs) : ItOk K ca (RZ.ItzT K a b) (zipW ws xs) [] ρ H := by
  intro i ρ' G' H' x r' _
  have hv' := (r.stay x).sqT hv
  have hu' := (r.stay x).sqT hu
  have qs := relWs_ext q r x
  have ps := relWs_ext p r x
  have hl : (zipW ws xs).length = min ws.length xs.length := by unfold zipW; simp
  refine ⟨fun w hw => ?_, fun hl' => ⟨vs, us, hv', hu', by rw [qs.length, ps.length]; omega⟩⟩
  unfold zipW at hw
  rw [List.getElem?_map] at hw
  cases e0 : (ws.zip xs)[i]? with
  | none => rw [e0] at hw; cases hw
  | some p0 =>
    rw [e0] at hw
    have hw' : W.tup [p0.1, p0.2] = w := by simpa using hw
    obtain ⟨hi1, hi2⟩ := List.getElem?_zip_eq_some.mp e0
    obtain ⟨v, e1, q1⟩ := relWs_get qs hi1
    obtain ⟨v2, e12, q12⟩ := relWs_get ps hi2
    refine ⟨⟨vs, us, v, v2, hv', hu', e1, e12⟩, fun y H2 hy => ?_⟩
    obtain ⟨T, z, z2, rfl, hT, rfl, hy, hy2⟩ := hy
    have e2 := hy vs hv'
    rw [e1] at e2
    cases e2
    have e22 := hy2 us hu'
    rw [e12] at e22
    cases e22
    rw [← hw']
    exact pair_new r' hT q1 q12
theorem itz_ok {K : PySem.W.Frag} {ρ : List Addr} {G : GH} {H0 H : Hp} {a b : Addr} {t u : T} {ws us : List W} (q : RelT K ca H0 ρ H (.ref a) t) (h : rdl t G = some ws) (q2 : RelT K ca H0 ρ H (.ref b) u) (h2 : rdl u G = some us) (r : Rep K ca ρ G H) :
    ItOk K ca (Itz K a b) (zipW ws us) (srcOf t ws ++ srcOf u us) ρ H := by
  intro i ρ' G' H' x r' hs
  have hs1 : still (srcOf t ws) G' = true := still_iff.mpr fun p hp => still_iff.mp hs p (List.mem_append_left _ hp)
  have hs2 : still (srcOf u us) G' = true := still_iff.mpr fun p hp => still_iff.mp hs p (List.mem_append_right _ hp)
  obtain ⟨a', vs, e, hv, qs⟩ := rdl_later q h r x r' hs1
  cases e
  obtain ⟨b', vs2, e, hv2, qs2⟩ := rdl_later q2 h2 r x r' hs2
  cases e
  have hl : (zipW ws us).length = min ws.length us.length := by unfold zipW; simp
  refine ⟨fun w hw => ?_, fun hl' => ⟨vs, vs2, hv, hv2, by rw [qs.length, qs2.length]; omega⟩⟩
  unfold zipW at hw
  rw [List.getElem?_map] at hw
  cases e0 : (ws.zip us)[i]? with
  | none => rw [e0] at hw; cases hw
  | some p =>
    rw [e0] at hw
    have hw' : W.tup [p.1, p.2] = w := by simpa using hw
    obtain ⟨hi1, hi2⟩ := List.getElem?_zip_eq_some.mp e0
    obtain ⟨v, e1, q1⟩ := relWs_get qs hi1
    obtain ⟨v2, e12, q12⟩ := relWs_get qs2 hi2
    refine ⟨⟨vs, vs2, v, v2, hv, hv2, e1, e12⟩, fun y H2 hy => ?_⟩
    obtain ⟨T, z, z2, rfl, hT, rfl, hy, hy2⟩ := hy
    have e2 := hy vs hv
    rw [e1] at e2
    cases e2
    have e22 := hy2 vs2 hv2
    rw [e12] at e22
    cases e22
    rw [← hw']
    exact pair_new r' hT q1 q12
theorem itv_ok {K : PySem.W.Frag} {ρ : List Addr} {G : GH} {H0 H : Hp} {a : Addr} {n : Nat} {t : T} {ws : List W} (q : RelT K ca H0 ρ H (.ref a) t) (h : rdl t G = some ws) (hn : n = ws.length) (r : Rep K ca ρ G H) : ItOk K ca (Itv K a n) ws.reverse (srcOf t ws) ρ H := by
  subst hn
  intro i ρ' G' H' x r' hs
  obtain ⟨b, vs, e, hv, qs⟩ := rdl_later q h r x r' hs
  cases e
  refine ⟨fun w hw => ?_, fun hl' => by show ws.length ≤ i; simpa using hl'⟩
  have h1 : i < ws.length := by simpa using (List.getElem?_eq_some_iff.mp hw).1
  rw [List.getElem?_reverse h1] at hw
  obtain ⟨v, e1, q1⟩ := relWs_get qs hw
  refine ⟨⟨h1, vs, v, hv, e1⟩, fun y H2 hy => ?_⟩
  obtain ⟨rfl, hy⟩ := hy
  have e2 := hy vs hv
  rw [e1] at e2
  cases e2
  exact ⟨.refl, r', q1⟩
theorem i_enum {e : Expr} {elts : List Expr} {kk : Nat} {p tpos : Pos} {m : M (List T)} (hg : Gl X "enumerate") (hm : X.mg "enumerate" = none) (ha : PA X [e] (tB X.K ca Wx m)) (hs : starEach [e] X.env = [(false, eval e X.env)] := by rfl) :
    PI X (.Tuple elts kk tpos) (.Call (.Name "enumerate" p) [e] [] pos) (tI X.K ca Wx (miB iterE m)) := by
  refine PI.weak (pi_enumA hg hm ha hs) fun σ H R ⟨ρ, G, τ, r, sl, h⟩ => ?_
  refine tB.seq r sl h fun ts G1 ρ1 H1 vs x1 r1 s1 q1 h1 => ?_
  unfold iterE at h1
  split at h1
  · rename_i t
    obtain ⟨v, rfl, qv⟩ := relTs_one q1
    cases e0 : rdl t G1 with
    | none =>
      rw [e0] at h1
      dsimp only at h1
      cases e1 : rdt t with
      | none => rw [e1] at h1; exact h1.elim
      | some ws =>
        rw [e1] at h1
        obtain ⟨a, vs, rfl, hv, qs⟩ := rdt_of qv e1
        exact ⟨a, vs, rfl, .inr ⟨hv, h1 ρ1 H1 .refl r1 _ (iteT_ok r1 hv qs)⟩⟩
    | some ws =>
      rw [e0] at h1
      obtain ⟨a, vs, rfl, hv, qs⟩ := rdl_of r1 qv e0
      exact ⟨a, vs, rfl, .inl ⟨hv, h1 ρ1 H1 .refl r1 _ (ite_ok qv e0 r1)⟩⟩
  · exact h1.elim
theorem i_zip {e e2 : Expr} {elts : List Expr} {kk : Nat} {p tpos : Pos} {m : M (List T)} (hg : Gl X "zip") (hm : X.mg "zip" = none) (ha : PA X [e, e2] (tB X.K ca Wx m)) (hs : starEach [e, e2] X.env = (false, eval e X.env) :: starEach [e2] X.env := by rfl) (hpl : (backTo pos (starEach [e2] X.env)).any (·.1) = false := by rfl) :
    PI X (.Tuple elts kk tpos) (.Call (.Name "zip" p) [e, e2] [] pos) (tI X.K ca Wx (miB iterZ m)) := by
  refine PI.weak (RZ.pi_zipA hg hm ha hs hpl) fun σ H R ⟨ρ, G, τ, r, sl, h⟩ => ?_
  refine tB.seq r sl h fun ts G1 ρ1 H1 vs x1 r1 s1 q1 h1 => ?_
  unfold iterZ at h1
  split at h1
  · rename_i t u
    obtain ⟨v, v2, rfl, qv, qu⟩ := relTs_two q1
    split at h1
    · rename_i ws us e0 e1
      obtain ⟨a, vs, rfl, hv, qs⟩ := rdl_of r1 qv e0
      obtain ⟨b, vs2, rfl, hv2, qs2⟩ := rdl_of r1 qu e1
      exact ⟨a, b, vs, vs2, rfl, .inl ⟨hv, hv2, h1 ρ1 H1 .refl r1 _ (itz_ok qv e0 qu e1 r1)⟩⟩
    · split at h1
      · rename_i ws us e0 e1
        obtain ⟨a, vs, rfl, hv, qs⟩ := rdt_of qv e0
        obtain ⟨b, vs2, rfl, hv2, qs2⟩ := rdt_of qu e1
        exact ⟨a, b, vs, vs2, rfl, .inr ⟨hv, hv2, h1 ρ1 H1 .refl r1 _ (itzT_ok r1 hv qs hv2 qs2)⟩⟩
      · exact h1.elim
  · exact h1.elim
theorem i_reversed {e : Expr} {p : Pos} {m : M (List T)} (hg : Gl X "reversed") (hm : X.mg "reversed" = none) (ha : PA X [e] (tB X.K ca Wx m)) (hs : starEach [e] X.env = [(false, eval e X.env)] := by rfl) :
    PI X tg (.Call (.Name "reversed" p) [e] [] pos) (tI X.K ca Wx (miB iterV m)) := by
  refine PI.weak (pi_reversed hg hm ha hs) fun σ H R ⟨ρ, G, τ, r, sl, h⟩ => ?_
  refine tB.seq r sl h fun ts G1 ρ1 H1 vs x1 r1 s1 q1 h1 => ?_
  unfold iterV at h1
  split at h1
  · rename_i t
    obtain ⟨v, rfl, qv⟩ := relTs_one q1
    cases e0 : rdl t G1 with
    | none => rw [e0] at h1; exact h1.elim
    | some ws =>
      rw [e0] at h1
      obtain ⟨a, vs, rfl, hv, qs⟩ := rdl_of r1 qv e0
      exact ⟨a, vs, rfl, hv, h1 ρ1 H1 .refl r1 _ (itv_ok qv e0 qs.length r1)⟩
  · exact h1.elim
end
end Sy
set_option Elab.async false
set_option linter.all false
set_option maxRecDepth 100000
set_option maxHeartbeats 4000000
namespace Sy
open PySem PySem.Spec PyProof.Rows L2

/-! tuple targets -/
section
variable {X : Cx} {ca : Nat → Addr} {Wx : WX} {pos : Pos}
def tGs (K : PySem.W.Frag) (ca : Nat → Addr) (g : List W → Sl → Option Sl) : TGs := fun vs σ H Q => ∃ ρ G τ ws, Rep K ca ρ G H ∧ RelS K ca ρ H σ τ ∧ RelWs K ca ρ H vs ws ∧ ∃ τ', g ws τ = some τ' ∧ ∀ ρ' H' σ', Ext ρ H ρ' H' → Rep K ca ρ' G H' → RelS K ca ρ' H' σ' τ' → Q σ' H'
def gE : List W → Sl → Option Sl
  | [], τ => some τ
  | _ :: _, _ => none
def gC (g : MG) (gs : List W → Sl → Option Sl) : List W → Sl → Option Sl
  | [], _ => none
  | w :: ws, τ => (g w τ).bind (gs ws)
def gT (gs : List W → Sl → Option Sl) : MG
  | .tup ws, τ => gs ws τ
  | _, _ => none
theorem PG.weak {X : Cx} {e : Expr} {t t' : TG} (h : PG X e t) (f : ∀ v σ H Q, t' v σ H Q → t v σ H Q) : PG X e t' := ⟨fun pins s σ H v u Q I r q => h.run pins s σ H v u Q I r (f v σ H Q q)⟩
theorem PGs.weak {X : Cx} {e : List Expr} {t t' : TGs} (h : PGs X e t) (f : ∀ v σ H Q, t' v σ H Q → t v σ H Q) : PGs X e t' := ⟨fun pins s σ H v u Q I r q => h.run pins s σ H v u Q I r (f v σ H Q q)⟩
theorem g_nil : PGs X [] (tGs X.K ca gE) := PGs.weak pgs_nil fun vs σ H Q ⟨ρ, G, τ, ws, r, s, q, τ', e, h⟩ => by
  cases q with
  | nil => cases e; exact ⟨rfl, h ρ H σ .refl r s⟩
  | cons _ _ => cases e
theorem g_cons {e : Expr} {es : List Expr} {g : MG} {gs : List W → Sl → Option Sl} (h1 : PG X e (tG X.K ca g)) (h2 : PGs X es (tGs X.K ca gs))
    (hs : (assignEach (e :: es) X.env).map (·.2) = assign e X.env :: (assignEach es X.env).map (·.2) := by rfl) : PGs X (e :: es) (tGs X.K ca (gC g gs)) :=
  PGs.weak (pgs_cons h1 h2 hs) fun vs σ H Q ⟨ρ, G, τ, ws, r, s, q, τ', e, h⟩ => by
    cases ws with
    | nil => cases e
    | cons w ws =>
      have e : (g w τ).bind (gs ws) = some τ' := e
      cases vs with
      | nil => cases q
      | cons v vs =>
        have q0 : RelW X.K ca ρ H v w := by cases q; assumption
        have qt : RelWs X.K ca ρ H vs ws := by cases q; assumption
        cases e1 : g w τ with
        | none => rw [e1] at e; cases e
        | some τ1 =>
          rw [e1] at e
          refine ⟨v, vs, rfl, ρ, G, τ, w, r, s, q0, τ1, e1, fun ρ1 H1 σ1 x1 r1 s1 => ?_⟩
          exact ⟨ρ1, G, τ1, ws, r1, s1, relWs_ext qt r x1, τ', e, fun ρ2 H2 σ2 x2 r2 s2 => h ρ2 H2 σ2 (x1.trans x2) r2 s2⟩
theorem g_tup {es : List Expr} {k n : Nat} {gs : List W → Sl → Option Sl} (hc : X.calm = true) (h : PGs X es (tGs X.K ca gs)) (hl : ∀ ws τ τ', gs ws τ = some τ' → ws.length = n)
    (hn : (assignEach es X.env).length = n := by rfl) (hst : (assignEach es X.env).findIdx? (·.1) = none := by rfl) : PG X (.Tuple es k pos) (tG X.K ca (gT gs)) :=
  PG.weak (pg_tup hc h hn hst) fun v σ H Q ⟨ρ, G, τ, w, r, s, q, τ', e, hq⟩ => by
    cases w with
    | tup ws =>
      obtain ⟨a, vs, rfl, hv, qs⟩ := relW_tup q
      exact ⟨a, vs, rfl, hv, qs.length.trans (hl ws τ τ' e), ρ, G, τ, ws, r, s, qs, τ', e, hq⟩
    | _ => cases e
theorem gl_nil : ∀ ws τ τ', gE ws τ = some τ' → ws.length = 0
  | [], _, _, _ => rfl
theorem gl_cons {g : MG} {gs : List W → Sl → Option Sl} {n : Nat} (h : ∀ ws τ τ', gs ws τ = some τ' → ws.length = n) : ∀ ws τ τ', gC g gs ws τ = some τ' → ws.length = n + 1
  | w :: ws, τ, τ', e => by
    have e : (g w τ).bind (gs ws) = some τ' := e
    cases e1 : g w τ with
    | none => rw [e1] at e; cases e
    | some τ1 => rw [e1] at e; rw [List.length_cons, h ws τ1 τ' e]
/-- target = e -/
def sAsg (g : MG) (m : M T) : MS := fun τ G => (mF m τ G).toS τ fun w G1 => match g w τ with
  | some τ' => .nx τ' G1
  | none => .bad
theorem s_asg {tgt e : Expr} {g : MG} {m : M T} (he : PE X e (tE X.K ca Wx m)) (hg : PG X tgt (tG X.K ca g)) (hs : swapsWithSole [tgt] e pos.line X.env = pure false := by rfl) (hw : swappedStores [tgt] e X.env = pure none := by rfl)
    (h1 : (assignEach [tgt] X.env).map (·.2) = [assign tgt X.env] := by rfl) : PS X (.Assign [tgt] e pos) (tS X.K ca Wx (sAsg g m)) := by
  refine PS.weak (ps_asg he hg hs hw h1) fun D σ H ⟨ρ, G, τ, r, s, h⟩ => ?_
  refine tE.seqFS r s h fun w G1 ρ1 H1 v x1 r1 s1 q1 h1 => ?_
  cases e : g w τ with
  | none => rw [e] at h1; exact h1.elim
  | some τ' => rw [e] at h1; exact ⟨ρ1, G1, τ, w, r1, s1, q1, τ', e, fun ρ' H' σ' x r s => h1 ρ' H' σ' x r s⟩
/-- a, b = e1, e2, two plain names -/
def sPar (i j : Nat) (m : M (List W)) : MS := fun τ G => (m τ G).toS τ fun ws G1 => match ws with
  | [w, u] => .nx ((τ.set i (some w)).set j (some u)) G1
  | _ => .bad
theorem tA.seqS {D : Ends} {σ : SSt} {ρ : List Addr} {G : GH} {τ : Sl} {H : Hp} {m : M (List W)} {k : List W → GH → RS} {Q : List V → Hp → Prop} (r : Rep X.K ca ρ G H) (s : RelS X.K ca ρ H σ τ) (h : PostS X.K ca Wx D ρ H ((m τ G).toS τ k))
    (hk : ∀ ws G1 ρ1 H1 vs, Ext ρ H ρ1 H1 → Rep X.K ca ρ1 G1 H1 → RelS X.K ca ρ1 H1 σ τ → RelWs X.K ca ρ1 H1 vs ws → PostS X.K ca Wx D ρ1 H1 (k ws G1) → Q vs H1) : tA X.K ca Wx m σ H Q :=
  ⟨ρ, G, τ, r, s, (PostS.of s r h).imp fun ws G1 ρ1 H1 x r1 q vs rv => hk ws G1 ρ1 H1 vs x r1 (s.ext r x) rv q⟩
theorem s_par {i j : Nat} {x y : Str} {a b : Expr} {ma : M (List W)} {px py pt : Pos} {kt k2 pt2} (hc : X.calm = true) (hN : X.N.Nodup) (hi : X.N[i]? = some x) (hj : X.N[j]? = some y) (hij : i ≠ j)
    (hx : X.env.scope.names.lookup x = some .local) (hy : X.env.scope.names.lookup y = some .local) (ha : PA X [a, b] (tA X.K ca Wx ma))
    (hw : swappedStores [.Tuple [.Name x px, .Name y py] kt pt] (.Tuple [a, b] k2 pt2) X.env = pure (some [x, y]))
    (hs : swapsWithSole [.Tuple [.Name x px, .Name y py] kt pt] (.Tuple [a, b] k2 pt2) pos.line X.env = pure false := by rfl) :
    PS X (.Assign [.Tuple [.Name x px, .Name y py] kt pt] (.Tuple [a, b] k2 pt2) pos) (tS X.K ca Wx (sPar i j ma)) := by
  refine PS.weak (ps_par hc hN hi hj hij hx hy ha hw hs) fun D σ H ⟨ρ, G, τ, r, s, h⟩ => ?_
  refine tA.seqS r s h fun ws G1 ρ1 H1 vs x1 r1 s1 q1 h1 => ?_
  split at h1
  · obtain ⟨v, u, rfl, qv, qu⟩ := relWs_two q1
    exact ⟨v, u, rfl, h1 ρ1 H1 _ .refl r1 ((s1.set i qv).set j qu)⟩
  · exact h1.elim
end

/-! list comprehensions whose turns raise nothing -/
def R.noEx {α : Type} : R α → R α
  | .ok a G => .ok a G
  | _ => .bad
@[simp] theorem R.noEx_ok {α : Type} (a : α) (G : GH) : (R.ok a G).noEx = .ok a G := (rfl)
def wipeS (τ : Sl) : List Nat → Sl
  | [] => τ
  | v :: vs => (wipeS τ vs).set v none
noncomputable def compF (src : Src) (g : MG) (c : M Bool) (e : M T) (τ : Sl) : List W → GH → R (List W)
  | [], G => if still src G then .ok [] G else .bad
  | w :: ws, G => if still src G then match g w τ with
      | none => .bad
      | some τ1 => ((c τ1 G).noEx).bind fun b G1 => if b then ((mF e τ1 G1).noEx).bind fun y G2 => (compF src g c e τ ws G2).bind fun ys G3 => .ok (y :: ys) G3
          else compF src g c e τ ws G1
    else .bad
noncomputable def mComp (mi : M (List W × Src)) (g : MG) (c : M Bool) (e : M T) (vs : List Nat) : M T := fun τ G => (mi τ G).bind fun p G1 =>
  if p.1.length ≤ 16777216 then (compF p.2 g c e (wipeS τ vs) p.1 G1).bind fun ys G2 => .ok (.tmp ys) G2 else .bad
def wF : WX := fun _ _ _ _ => False
def mYes : M Bool := fun _ G => .ok true G
section
variable {X : Cx} {ca : Nat → Addr} {Wx : WX} {pos : Pos}
theorem RelS.wipe {K : PySem.W.Frag} {ρ : List Addr} {H : Hp} {σ : SSt} {τ : Sl} (h : RelS K ca ρ H σ τ) : ∀ vs : List Nat, RelS K ca ρ H (L2.wipe σ vs) (wipeS τ vs)
  | [] => h
  | v :: vs => (RelS.wipe h vs).unset v
theorem Post.noEx {α : Type} {σ : SSt} {ρ : List Addr} {H : Hp} {P : α → GH → List Addr → Hp → Prop} {r : R α} (h : Post X.K ca Wx σ ρ H P r.noEx) : Post X.K ca wF σ ρ H P r := by
  cases r with
  | ok a G => exact h
  | ex c fs G => exact h.elim
  | bad => exact h
theorem Post.noExBind {α β : Type} {σ σ' : SSt} {ρ : List Addr} {H : Hp} {P : β → GH → List Addr → Hp → Prop} {r : R α} {k : α → GH → R β} (h : Post X.K ca Wx σ ρ H P (r.noEx.bind k)) :
    Post X.K ca wF σ' ρ H (fun a G1 ρ1 H1 => Post X.K ca Wx σ ρ1 H1 P (k a G1)) r := by
  cases r with
  | ok a G => exact fun ρ1 H1 x r1 => Post.later h x
  | ex c fs G => exact h.elim
  | bad => exact h
/-- the list in the making grows -/
theorem rep_app {K : PySem.W.Frag} {ρ : List Addr} {G : GH} {H : Hp} {D : Addr} {o : HO} (r : Rep K ca ρ G H) (hn : D ∉ ρ) (ht : ∀ u, H D = some u → isStat u = false) : Rep K ca ρ G (upd H D o) :=
  ⟨r.len, r.nd, fun n a u e1 e2 => objR_mono (r.obj n a u e1 e2) (fun _ _ h => h) (Stay.put ht) (upd_ne fun e => hn (e ▸ List.mem_of_getElem? e1))⟩
theorem tE.eqF {σ : SSt} {ρ : List Addr} {G G1 : GH} {τ : Sl} {H : Hp} {m : M T} {w : W} {Q : VK} (e : mF m τ G = .ok w G1) (r : Rep X.K ca ρ G H) (s : RelS X.K ca ρ H σ τ)
    (hk : ∀ ρ1 H1 v, Ext ρ H ρ1 H1 → Rep X.K ca ρ1 G1 H1 → RelS X.K ca ρ1 H1 σ τ → RelW X.K ca ρ1 H1 v w → Q v H1) : tE X.K ca Wx m σ H Q := by
  refine tE.seqF (k := fun y G2 => R.ok y G2) (P := fun y G2 _ _ => y = w ∧ G2 = G1) r s ?_ fun y G2 ρ1 H1 v x1 r1 s1 q1 h1 => ?_
  · show Post X.K ca Wx σ ρ H _ ((mF m τ G).bind fun y G2 => R.ok y G2)
    rw [e]
    exact fun _ _ _ _ => ⟨rfl, rfl⟩
  · obtain ⟨rfl, rfl⟩ := h1 ρ1 H1 .refl r1
    exact hk ρ1 H1 v x1 r1 s1 q1
theorem tT.eqB {σ : SSt} {ρ : List Addr} {G G1 : GH} {τ : Sl} {H : Hp} {m : M Bool} {b : Bool} {Q : Bool → Hp → Prop} (e : m τ G = .ok b G1) (r : Rep X.K ca ρ G H) (s : RelS X.K ca ρ H σ τ)
    (hk : ∀ ρ1 H1, Ext ρ H ρ1 H1 → Rep X.K ca ρ1 G1 H1 → RelS X.K ca ρ1 H1 σ τ → Q b H1) : tT X.K ca Wx m σ H Q := by
  refine ⟨ρ, G, τ, r, s, ?_⟩
  rw [e]
  exact fun ρ1 H1 x1 r1 => hk ρ1 H1 x1 r1 (s.ext r x1)
theorem comp_of {tgI : TI} {g : MG} {tt : TT} {te : TE} {vs : List Nat} {mi : M (List W × Src)} {mc : M Bool} {me : M T} {gg : TG}
    (hi : ∀ σ H R, tI X.K ca Wx mi σ H R → tgI σ H R) (hg : ∀ v σ H Q, tG X.K ca g v σ H Q → gg v σ H Q) (ht : ∀ σ H Q, tT X.K ca wF mc σ H Q → tt σ H Q) (he : ∀ σ H Q, tE X.K ca wF me σ H Q → te σ H Q)
    (hgw : ∀ v σ H (Q : SSt → Hp → Prop), gg v (L2.wipe σ vs) H Q → gg v (L2.wipe σ vs) H fun σ2 H2 => L2.wipe σ2 vs = L2.wipe σ vs ∧ Q σ2 H2)
    {σ : SSt} {H : Hp} {Q : VK} (h : tE X.K ca Wx (mComp mi g mc me vs) σ H Q) : tLc tgI gg tt te vs σ H Q := by
  obtain ⟨ρ, G, τ, r, s, h⟩ := h
  refine hi σ H _ ⟨ρ, G, τ, r, s, h.bind.imp fun p G1 ρ1 H1 x1 r1 h1 J hJ D hD => ?_⟩
  obtain ⟨its, src⟩ := p
  dsimp only at h1
  by_cases hz : its.length ≤ 16777216
  · rw [if_pos hz] at h1
    -- what holds between two turns
    generalize hP : (fun (t : T) (_ : GH) ρ2 H2 => ∀ v, RelT X.K ca H ρ2 H2 v t → Q v H2) = P at h1
    generalize hZ : (fun (i : Nat) (H' : Hp) => ∃ ρ' G' acc accW, Ext ρ1 H1 ρ' H' ∧ Rep X.K ca ρ' G' H' ∧ D ∉ ρ' ∧ H' D = some (.lst acc) ∧ RelWs X.K ca ρ' H' acc accW ∧ acc.length ≤ i ∧
      Post X.K ca Wx σ ρ1 H1 P ((compF src g mc me (wipeS τ vs) (its.drop i) G').bind fun ys G2 => .ok (.tmp (accW ++ ys)) G2)) = Z
    have mkZ : ∀ {i : Nat} {H' : Hp} {ρ' : List Addr} {G' : GH} {acc : List V} {accW : List W}, Ext ρ1 H1 ρ' H' → Rep X.K ca ρ' G' H' → D ∉ ρ' → H' D = some (.lst acc) → RelWs X.K ca ρ' H' acc accW → acc.length ≤ i →
        Post X.K ca Wx σ ρ1 H1 P ((compF src g mc me (wipeS τ vs) (its.drop i) G').bind fun ys G2 => .ok (.tmp (accW ++ ys)) G2) → Z i H' := by
      intro i H' ρ' G' acc accW a b c d e f g
      rw [← hZ]
      exact ⟨ρ', G', acc, accW, a, b, c, d, e, f, g⟩
    refine ⟨fun i m H' => m = its.length - i ∧ i ≤ its.length ∧ Z i H', ⟨its.length, rfl, Nat.zero_le _, mkZ (.laid hD) (r1.laid hD) (r1.fresh hD) upd_same .nil (Nat.le_refl _) ?_⟩, ?_⟩
    · exact h1
    · rintro i m H2 ⟨rfl, hi, hz2⟩
      rw [← hZ] at hz2
      obtain ⟨ρ2, G2, acc, accW, x2, r2, nD, eD, qD, lD, h2⟩ := hz2
      have s2 : RelS X.K ca ρ2 H2 σ τ := (s.ext r x1).ext r1 x2
      by_cases hlt : i < its.length
      · rw [List.drop_eq_getElem_cons hlt] at h2
        unfold compF at h2
        cases hs : still src G2 with
        | false => rw [hs] at h2; exact h2.elim
        | true =>
          rw [hs, if_pos rfl] at h2
          obtain ⟨hgo, _⟩ := hJ i ρ2 G2 H2 x2 r2 hs
          obtain ⟨go, yl⟩ := hgo its[i] (List.getElem?_eq_getElem hlt)
          refine .inr ⟨go, Z (i + 1), fun H' hw => ⟨its.length - (i + 1), by omega, rfl, hlt, hw⟩, fun y H3 hy => hgw _ _ _ _ ?_⟩
          obtain ⟨x3, r3, q3⟩ := yl y H3 hy
          cases e : g its[i] (wipeS τ vs) with
          | none => rw [e] at h2; exact h2.elim
          | some τ3 =>
            rw [e] at h2
            dsimp only at h2
            refine hg _ _ _ _ ⟨ρ2, G2, wipeS τ vs, its[i], r3, (s2.ext r2 x3).wipe vs, q3, τ3, e, fun ρ4 H4 σ4 x4 r4 s4 => ?_⟩
            have x24 := x3.trans x4
            cases ec : mc τ3 G2 with
            | ex _ _ _ => rw [ec] at h2; exact h2.elim
            | bad => rw [ec] at h2; exact h2.elim
            | ok b G5 =>
              rw [ec] at h2
              refine ht _ _ _ (tT.eqB ec r4 s4 fun ρ5 H5 x5 r5 s5 => ?_)
              have x25 := x24.trans x5
              have nD5 : D ∉ ρ5 := fun hm => (x25.new D hm).elim nD fun z => by rw [eD] at z; cases z
              have eD5 : H5 D = some (.lst acc) := x25.keep _ _ nD eD
              have q5 := relWs_ext qD r2 x25
              have x15 := x2.trans x25
              cases b with
              | false =>
                show Z (i + 1) H5
                exact mkZ x15 r5 nD5 eD5 q5 (by omega) h2
              | true =>
                show te σ4 H5 _
                cases em : mF me τ3 G5 with
                | ex _ _ _ =>
                  have h3 : Post X.K ca Wx σ ρ1 H1 P ((((mF me τ3 G5).noEx).bind fun y G2 => (compF src g mc me (wipeS τ vs) (its.drop (i + 1)) G2).bind fun ys G3 => .ok (y :: ys) G3).bind fun ys G2 => .ok (.tmp (accW ++ ys)) G2) := h2
                  rw [em] at h3; exact h3.elim
                | bad =>
                  have h3 : Post X.K ca Wx σ ρ1 H1 P ((((mF me τ3 G5).noEx).bind fun y G2 => (compF src g mc me (wipeS τ vs) (its.drop (i + 1)) G2).bind fun ys G3 => .ok (y :: ys) G3).bind fun ys G2 => .ok (.tmp (accW ++ ys)) G2) := h2
                  rw [em] at h3; exact h3.elim
                | ok w G6 =>
                  have h3 : Post X.K ca Wx σ ρ1 H1 P ((((mF me τ3 G5).noEx).bind fun y G2 => (compF src g mc me (wipeS τ vs) (its.drop (i + 1)) G2).bind fun ys G3 => .ok (y :: ys) G3).bind fun ys G2 => .ok (.tmp (accW ++ ys)) G2) := h2
                  rw [em] at h3
                  have h4 : Post X.K ca Wx σ ρ1 H1 P ((compF src g mc me (wipeS τ vs) (its.drop (i + 1)) G6).bind fun ys G2 => .ok (.tmp ((accW ++ [w]) ++ ys)) G2) := by
                    cases ef : compF src g mc me (wipeS τ vs) (its.drop (i + 1)) G6 with
                    | ok ys G7 =>
                      have h5 : Post X.K ca Wx σ ρ1 H1 P (((compF src g mc me (wipeS τ vs) (its.drop (i + 1)) G6).bind fun ys G3 => .ok (w :: ys) G3).bind fun ys G2 => .ok (.tmp (accW ++ ys)) G2) := h3
                      rw [ef] at h5
                      show Post X.K ca Wx σ ρ1 H1 P (.ok (.tmp ((accW ++ [w]) ++ ys)) G7)
                      rw [List.append_assoc]
                      exact h5
                    | ex _ _ _ =>
                      have h5 : Post X.K ca Wx σ ρ1 H1 P (((compF src g mc me (wipeS τ vs) (its.drop (i + 1)) G6).bind fun ys G3 => .ok (w :: ys) G3).bind fun ys G2 => .ok (.tmp (accW ++ ys)) G2) := h3
                      rw [ef] at h5
                      exact h5
                    | bad =>
                      have h5 : Post X.K ca Wx σ ρ1 H1 P (((compF src g mc me (wipeS τ vs) (its.drop (i + 1)) G6).bind fun ys G3 => .ok (w :: ys) G3).bind fun ys G2 => .ok (.tmp (accW ++ ys)) G2) := h3
                      rw [ef] at h5
                      exact h5
                  refine he _ _ _ (tE.eqF em r5 s5 fun ρ6 H6 v x6 r6 s6 q6 => ?_)
                  have nD6 : D ∉ ρ6 := fun hm => (x6.new D hm).elim nD5 fun z => by rw [eD5] at z; cases z
                  have eD6 : H6 D = some (.lst acc) := x6.keep _ _ nD5 eD5
                  have q7 := relWs_ext q5 r5 x6
                  have nt := ns_lst eD6
                  refine ⟨acc, eD6, by rw [sizeLine_eq]; omega, mkZ (acc := acc ++ [v]) (accW := accW ++ [w]) ?_ (rep_app r6 nD6 nt) nD6 upd_same ?_ (by rw [List.length_append, List.length_singleton]; omega) h4⟩
                  · have x16 := x15.trans x6
                    refine ⟨x16.pre, x16.new, fun b o hb e => ?_⟩
                    have nb : b ≠ D := fun z => by rw [z, hD] at e; cases e
                    rw [upd_ne nb]
                    exact x16.keep b o hb e
                  · exact relWs_app (paired_imp q7 fun _ _ z => z.mono (fun _ _ e => e) (Stay.put nt)) (.cons (q6.mono (fun _ _ e => e) (Stay.put nt)) .nil)
      · have e : i = its.length := by omega
        subst e
        rw [List.drop_length] at h2
        unfold compF at h2
        cases hs : still src G2 with
        | false => rw [hs] at h2; exact h2.elim
        | true =>
          rw [hs, if_pos rfl] at h2
          obtain ⟨_, hst⟩ := hJ its.length ρ2 G2 H2 x2 r2 hs
          refine .inl ⟨hst (Nat.le_refl _), ?_⟩
          have h3 := h2 ρ2 H2 x2 r2
          rw [← hP] at h3
          refine h3 (.ref D) ?_
          refine RelT.back (ρ := ρ1) (H := H1) ?_ x1 x2
          exact ⟨D, acc, rfl, nD, hD, eD, by rw [List.append_nil]; exact qD⟩
  · rw [if_neg hz] at h1
    exact h1.elim
end
end Sy
set_option Elab.async false
set_option linter.all false
set_option maxRecDepth 100000
set_option maxHeartbeats 4000000
namespace Sy
open PySem PySem.Spec PyProof.Rows L2

/-! a comprehension's own names -/
def Own (vs : List Nat) (gg : TG) : Prop := ∀ v σ H (Q : SSt → Hp → Prop), gg v σ H Q → gg v σ H fun σ2 H2 => L2.wipe σ2 vs = L2.wipe σ vs ∧ Q σ2 H2
def OwnS (vs : List Nat) (gg : TGs) : Prop := ∀ v σ H (Q : SSt → Hp → Prop), gg v σ H Q → gg v σ H fun σ2 H2 => L2.wipe σ2 vs = L2.wipe σ vs ∧ Q σ2 H2
theorem wipe_len (σ : SSt) (vs : List Nat) : (L2.wipe σ vs).length = σ.length := wipe_length σ vs
theorem wipe_set {i : Nat} {x : Option V} : ∀ {vs : List Nat} {σ : SSt}, i ∈ vs → L2.wipe (σ.set i x) vs = L2.wipe σ vs
  | v :: vs, σ, h => by
    show (L2.wipe (σ.set i x) vs).set v none = (L2.wipe σ vs).set v none
    by_cases hi : i ∈ vs
    · rw [wipe_set hi]
    · have e : i = v := by
        rcases List.mem_cons.mp h with e | e
        · exact e
        · exact absurd e hi
      subst e
      have aux : ∀ (us : List Nat) (σ : SSt), i ∉ us → L2.wipe (σ.set i x) us = (L2.wipe σ us).set i x := by
        intro us
        induction us with
        | nil => intro σ _; rfl
        | cons u us ih =>
          intro σ hu
          show (L2.wipe (σ.set i x) us).set u none = ((L2.wipe σ us).set u none).set i x
          rw [ih σ fun z => hu (List.mem_cons_of_mem _ z)]
          exact List.set_comm _ _ fun z => hu (by rw [z]; exact List.mem_cons_self)
      rw [aux vs σ hi, List.set_set]
theorem wipe_wipe {σ : SSt} {us : List Nat} : ∀ {vs : List Nat}, (∀ v ∈ vs, v ∈ us) → L2.wipe (L2.wipe σ vs) us = L2.wipe σ us
  | [], _ => rfl
  | v :: vs, h => by
    show L2.wipe ((L2.wipe σ vs).set v none) us = L2.wipe σ us
    rw [wipe_set (h v List.mem_cons_self), wipe_wipe fun u hu => h u (List.mem_cons_of_mem _ hu)]
theorem own_name {vs : List Nat} {i : Nat} (h : i ∈ vs) : Own vs (gName i) := fun v σ H Q q => ⟨wipe_set h, q⟩
theorem own_nil {vs : List Nat} : OwnS vs gNil := fun v σ H Q q => ⟨q.1, rfl, q.2⟩
theorem TG.mono_name {i : Nat} {v : V} {σ : SSt} {H : Hp} {Q Q' : SSt → Hp → Prop} (h : gName i v σ H Q) (f : ∀ σ H, Q σ H → Q' σ H) : gName i v σ H Q' := f _ _ h
theorem own_cons {vs : List Nat} {t : TG} {u : TGs} (h1 : Own vs t) (hm : ∀ v σ H (Q Q' : SSt → Hp → Prop), (∀ σ H, Q σ H → Q' σ H) → t v σ H Q → t v σ H Q') (hmu : ∀ v σ H (Q Q' : SSt → Hp → Prop), (∀ σ H, Q σ H → Q' σ H) → u v σ H Q → u v σ H Q') (h2 : OwnS vs u) : OwnS vs (gCons t u) := by
  rintro ws σ H Q ⟨v, r, e, q⟩
  refine ⟨v, r, e, hm _ _ _ _ _ (fun σ1 H1 h => ?_) (h1 v σ H _ q)⟩
  obtain ⟨e1, q1⟩ := h
  exact hmu _ _ _ _ _ (fun σ2 H2 h => ⟨h.1.trans e1, h.2⟩) (h2 r σ1 H1 Q q1)
theorem own_tup {K : PySem.W.Frag} {n : Nat} {vs : List Nat} {u : TGs} (h : OwnS vs u) : Own vs (gTup K n u) := by
  rintro v σ H Q ⟨a, xs, e, hs, hl, q⟩
  exact ⟨a, xs, e, hs, hl, h xs σ H Q q⟩
theorem mono_name {i : Nat} : ∀ v σ H (Q Q' : SSt → Hp → Prop), (∀ σ H, Q σ H → Q' σ H) → gName i v σ H Q → gName i v σ H Q' := fun _ _ _ _ _ f q => f _ _ q
theorem mono_nil : ∀ v σ H (Q Q' : SSt → Hp → Prop), (∀ σ H, Q σ H → Q' σ H) → gNil v σ H Q → gNil v σ H Q' := fun _ _ _ _ _ f q => ⟨q.1, f _ _ q.2⟩
theorem mono_cons {t : TG} {u : TGs} (hm : ∀ v σ H (Q Q' : SSt → Hp → Prop), (∀ σ H, Q σ H → Q' σ H) → t v σ H Q → t v σ H Q') (hmu : ∀ v σ H (Q Q' : SSt → Hp → Prop), (∀ σ H, Q σ H → Q' σ H) → u v σ H Q → u v σ H Q') :
    ∀ v σ H (Q Q' : SSt → Hp → Prop), (∀ σ H, Q σ H → Q' σ H) → gCons t u v σ H Q → gCons t u v σ H Q' := by
  rintro ws σ H Q Q' f ⟨v, r, e, q⟩
  exact ⟨v, r, e, hm _ _ _ _ _ (fun _ _ h => hmu _ _ _ _ _ f h) q⟩
section
variable {X : Cx} {ca : Nat → Addr} {Wx : WX} {pos : Pos}
def Tgt (K : PySem.W.Frag) (ca : Nat → Addr) (gg : TG) (g : MG) : Prop := ∀ v σ H Q, tG K ca g v σ H Q → gg v σ H Q
def TgtS (K : PySem.W.Frag) (ca : Nat → Addr) (gg : TGs) (g : List W → Sl → Option Sl) : Prop := ∀ v σ H Q, tGs K ca g v σ H Q → gg v σ H Q
theorem tgt_name {K : PySem.W.Frag} {i : Nat} : Tgt K ca (gName i) (gN i) := fun v σ H Q ⟨ρ, G, τ, w, r, s, q, τ', e, h⟩ => by
  cases e
  exact h ρ H _ .refl r (s.set i q)
theorem tgt_nil {K : PySem.W.Frag} : TgtS K ca gNil gE := fun vs σ H Q ⟨ρ, G, τ, ws, r, s, q, τ', e, h⟩ => by
  cases q with
  | nil => cases e; exact ⟨rfl, h ρ H σ .refl r s⟩
  | cons _ _ => cases e
theorem tgt_cons {K : PySem.W.Frag} {gg : TG} {g : MG} {ggs : TGs} {gs : List W → Sl → Option Sl} (h1 : Tgt K ca gg g) (h2 : TgtS K ca ggs gs) : TgtS K ca (gCons gg ggs) (gC g gs) := fun vs σ H Q ⟨ρ, G, τ, ws, r, s, q, τ', e, h⟩ => by
  cases ws with
  | nil => cases e
  | cons w ws =>
    have e : (g w τ).bind (gs ws) = some τ' := e
    cases vs with
    | nil => cases q
    | cons v vs =>
      have q0 : RelW K ca ρ H v w := by cases q; assumption
      have qt : RelWs K ca ρ H vs ws := by cases q; assumption
      cases e1 : g w τ with
      | none => rw [e1] at e; cases e
      | some τ1 =>
        rw [e1] at e
        refine ⟨v, vs, rfl, h1 _ _ _ _ ⟨ρ, G, τ, w, r, s, q0, τ1, e1, fun ρ1 H1 σ1 x1 r1 s1 => ?_⟩⟩
        exact h2 _ _ _ _ ⟨ρ1, G, τ1, ws, r1, s1, relWs_ext qt r x1, τ', e, fun ρ2 H2 σ2 x2 r2 s2 => h ρ2 H2 σ2 (x1.trans x2) r2 s2⟩
theorem tgt_tup {K : PySem.W.Frag} {n : Nat} {ggs : TGs} {gs : List W → Sl → Option Sl} (h : TgtS K ca ggs gs) (hl : ∀ ws τ τ', gs ws τ = some τ' → ws.length = n) : Tgt K ca (gTup K n ggs) (gT gs) := fun v σ H Q ⟨ρ, G, τ, w, r, s, q, τ', e, hq⟩ => by
  cases w with
  | tup ws =>
    obtain ⟨a, vs, rfl, hv, qs⟩ := relW_tup q
    exact ⟨a, vs, rfl, hv, qs.length.trans (hl ws τ τ' e), h _ _ _ _ ⟨ρ, G, τ, ws, r, s, qs, τ', e, hq⟩⟩
  | _ => cases e
theorem ts_nil : PTs X [] (tT X.K ca Wx mYes) := ⟨fun pins s σ H Q I ⟨ρ, G, τ, r, sl, h⟩ => pts_nil.run pins s σ H Q I (h ρ H .refl r)⟩
theorem ts_one {c : Expr} {m : M Bool} (h : PT X c (tT X.K ca Wx m)) : PTs X [c] (tT X.K ca Wx m) := pts_one h
/-- [elt for target in iter if ..] -/
theorem s_lc {elt tg iter : Expr} {ifs : List Expr} {scope : Scope} {own : List (Str × Nat)} {mi : M (List W × Src)} {gg : TG} {g : MG} {mc : M Bool} {me : M T} (hc : X.calm = true) (hN : X.N.Nodup) (hi : PI X tg iter (tI X.K ca Wx mi)) (ok : BlkOk X.N X.env.scope scope own)
    (hg : ∀ (s : Shared) (H : Hp) (C : Addr) (cl : List (Str × Addr)) (fp : List Addr), PG (X.blk s H scope (compEnvC scope cl C X.env) fp) tg gg) (hT : Tgt X.K ca gg g) (hO : Own (own.map (·.2)) gg)
    (ht : ∀ (s : Shared) (H : Hp) (C : Addr) (cl : List (Str × Addr)) (fp : List Addr), PTs (X.blk s H scope (compEnvC scope cl C X.env) fp) ifs (tT X.K ca wF mc))
    (he : ∀ (s : Shared) (H : Hp) (C : Addr) (cl : List (Str × Addr)) (fp : List Addr), PE (X.blk s H scope (compEnvC scope cl C X.env) fp) elt (tE X.K ca wF me)) (hs : ∀ x, foldedSetIterable iter X.env x = pure x := by intro _; rfl) :
    PE X (.ListComp elt [⟨tg, iter, ifs, 0⟩] scope pos) (tE X.K ca Wx (mComp mi g mc me (own.map (·.2)))) :=
  PE.weak (pe_lc hc hN hi ok hg ht he hs) fun σ H Q h => comp_of (fun _ _ _ h => h) hT (fun _ _ _ h => h) (fun _ _ _ h => h) (fun v σ H Q q => by
    have q' := hO v _ H Q q
    rwa [wipe_wipe fun v hv => hv] at q') h
theorem s_setLc {i : Nat} {y : Str} {py : Pos} {elt tg iter : Expr} {ifs : List Expr} {scope : Scope} {own : List (Str × Nat)} {spos : Pos} {mi : M (List W × Src)} {gg : TG} {g : MG} {mc : M Bool} {me : M T} (hc : X.calm = true) (hN : X.N.Nodup) (hy : X.N[i]? = some y) (hyl : X.env.scope.names.lookup y = some .local)
    (hsw : swapsWith (.ListComp elt [⟨tg, iter, ifs, 0⟩] scope pos) (some (.Name y py)) spos.line X.env = pure true) (hi : PI X tg iter (tI X.K ca Wx mi)) (ok : BlkOk X.N X.env.scope scope own)
    (hg : ∀ (s : Shared) (H : Hp) (C : Addr) (cl : List (Str × Addr)) (fp : List Addr), PG (X.blk s H scope (compEnvC scope cl C X.env) fp) tg gg) (hT : Tgt X.K ca gg g) (hO : Own (own.map (·.2)) gg)
    (ht : ∀ (s : Shared) (H : Hp) (C : Addr) (cl : List (Str × Addr)) (fp : List Addr), PTs (X.blk s H scope (compEnvC scope cl C X.env) fp) ifs (tT X.K ca wF mc))
    (he : ∀ (s : Shared) (H : Hp) (C : Addr) (cl : List (Str × Addr)) (fp : List Addr), PE (X.blk s H scope (compEnvC scope cl C X.env) fp) elt (tE X.K ca wF me)) (hs : ∀ x, foldedSetIterable iter X.env x = pure x := by intro _; rfl) :
    PS X (.Assign [.Name y py] (.ListComp elt [⟨tg, iter, ifs, 0⟩] scope pos) spos) (tS X.K ca Wx (sSet i (mComp mi g mc me (own.map (·.2))))) :=
  PS.weak (ps_setLc hc hN hy hyl hsw hi ok hg ht he hs) fun D σ H h => by
    have h' := set_of (X := X) h
    exact comp_of (fun _ _ _ h => h) hT (fun _ _ _ h => h) (fun _ _ _ h => h) (fun v σ H Q q => by
      have q' := hO v _ H Q q
      rwa [wipe_wipe fun v hv => hv] at q') h'
end

/-! defs -/
section
variable (K : PySem.W.Frag) (ca : Nat → Addr)
/-- what a def promises: it does what m does -/
def spM (n : Nat) (m : List W → GH → R W) : Sp := fun vs H Q E => vs.length = n ∧ ∃ ρ G ws, Rep K ca ρ G H ∧ RelWs K ca ρ H vs ws ∧ Post K ca (fun c d _ H => E c d H) [] ρ H (fun w _ ρ' H' => ∀ v, RelW K ca ρ' H' v w → Q v H') (m ws G)
end
def mDef (n : Nat) (mb : MS) : List W → GH → R W := fun ws G => match mb (ws.map some ++ List.replicate (n - ws.length) none) G with
  | .nx _ G' => .ok .non G'
  | .rt w G' => .ok w G'
  | .ex c fs _ G' => .ex c fs G'
  | _ => .bad
theorem relS_start {K : PySem.W.Frag} {ca : Nat → Addr} {ρ : List Addr} {H : Hp} {N : List Str} {vs : List V} {ws : List W} (q : RelWs K ca ρ H vs ws) : RelS K ca ρ H (L2.start N vs) (ws.map some ++ List.replicate (N.length - ws.length) none) := by
  have hl := q.length
  unfold L2.start
  refine ⟨by simp [hl], fun i w e => ?_⟩
  by_cases hi : i < ws.length
  · rw [List.getElem?_append_left (by simpa using hi), List.getElem?_map] at e
    cases e0 : ws[i]? with
    | none => rw [e0] at e; cases e
    | some u =>
      rw [e0] at e
      cases e
      obtain ⟨v, e1, q1⟩ := relWs_get q e0
      exact ⟨v, by rw [List.getElem?_append_left (by simp; omega), List.getElem?_map, e1]; rfl, q1⟩
  · rw [List.getElem?_append_right (by simpa using hi), List.getElem?_replicate] at e
    split at e <;> cases e
section
variable {P : Program} {w : World} {K : PySem.W.Frag} {mg : Str → Option Value} {base : Heap} {ca : Nat → Addr}
/-- a def of the module that does what m does; dws: the values of defaults that a call leaves out -/
structure Callable (P : Program) (w : World) (K : PySem.W.Frag) (mg : Str → Option Value) (base : Heap) (ca : Nat → Addr) (k : Nat) (x : Str) (ps : List Str) (dws : List W) (m : List W → GH → R W) : Prop where
  ex : ∃ (f : Addr) (fd : FuncData) (dvs : List V) (ds : List Value), mg x = some (.ref f) ∧ PySem.W.keepIn K (.ref f) = true ∧ Binds K fd ps ds ∧ Vals dvs ds ∧ (∀ ρ H, RelWs K ca ρ H dvs dws) ∧ FnOk P w K mg base (L2N.CX P w) k f fd ps (spM K ca ps.length m)
theorem Callable.mono {k k' : Nat} {x : Str} {ps : List Str} {dws : List W} {m : List W → GH → R W} (C : Callable P w K mg base ca k x ps dws m) (h : k ≤ k') : Callable P w K mg base ca k' x ps dws m := by
  obtain ⟨f, fd, dvs, ds, a, b, c, d, e, g⟩ := C.ex
  exact ⟨f, fd, dvs, ds, a, b, c, d, e, g.mono h⟩
end
def mCall (m : List W → GH → R W) (dws : List W) (ma : M (List W)) : M T := fun τ G => (ma τ G).bind fun ws G1 => (m (ws ++ dws) G1).bind fun w G2 => .ok (.val w) G2
section
variable {X : Cx} {ca : Nat → Addr} {Wx : WX} {pos : Pos}
theorem call_in {n : Nat} {m : List W → GH → R W} {dws : List W} {dvs : List V} {ma : M (List W)} {σ : SSt} {H : Hp} {Q : VK} (hd : ∀ ρ H, RelWs X.K ca ρ H dvs dws) (hn : ∀ ws τ G G1, ma τ G = .ok ws G1 → (ws ++ dws).length = n)
    (h : tE X.K ca Wx (mCall m dws ma) σ H Q) : tA X.K ca Wx ma σ H fun vs H1 => spM X.K ca n m (vs ++ dvs) H1 Q (WE Wx σ) := by
  obtain ⟨ρ, G, τ, r, s, h⟩ := h
  refine ⟨ρ, G, τ, r, s, ?_⟩
  cases e : ma τ G with
  | ok ws G1 =>
    have h' : Post X.K ca Wx σ ρ H (fun t _ ρ' H' => ∀ v, RelT X.K ca H ρ' H' v t → Q v H') ((m (ws ++ dws) G1).bind fun w G2 => .ok (.val w) G2) := by
      unfold mCall at h
      rw [e] at h
      exact h
    intro ρ1 H1 x1 r1 vs qs
    have qs2 := relWs_app qs (hd ρ1 H1)
    refine ⟨qs2.length.trans (hn ws τ G G1 e), ρ1, G1, ws ++ dws, r1, qs2, ?_⟩
    have h2 := Post.later h' x1
    cases em : m (ws ++ dws) G1 with
    | ok w G2 => rw [em] at h2; exact fun ρ2 H2 x2 r2 v q => h2 ρ2 H2 x2 r2 v q
    | ex c fs G2 => rw [em] at h2; exact h2
    | bad => rw [em] at h2; exact h2
  | ex c fs G1 => unfold mCall at h; rw [e] at h; exact h
  | bad => unfold mCall at h; rw [e] at h; exact h
theorem s_call {x : Str} {p : Pos} {k : Nat} {ps : List Str} {dws : List W} {m : List W → GH → R W} {e : Expr} {es : List Expr} {ma : M (List W)} (C : Callable X.prog X.w X.K X.mg X.base ca k x ps dws m) (hr : Room k X.A) (hg : Gl X x) (tk : L2N.Takes X Wx)
    (ha : PA X (e :: es) (tA X.K ca Wx ma)) (hn : ∀ ws τ G G1, ma τ G = .ok ws G1 → (ws ++ dws).length = ps.length) (hdb : (x == ("__debug__" : Str)) = false := by decide)
    (he : starEach (e :: es) X.env = (false, eval e X.env) :: starEach es X.env := by rfl) (hpl : (backTo pos (starEach es X.env)).any (·.1) = false := by rfl) :
    PE X (.Call (.Name x p) (e :: es) [] pos) (tE X.K ca Wx (mCall m dws ma)) := by
  obtain ⟨f, fd, dvs, ds, gm, kp, b, hv, hd, F⟩ := C.ex
  exact PE.weak (pe_callSD F hr hg gm kp b hv (fun σ => L2N.passAt tk σ) ha hdb he hpl) fun σ H Q h => call_in hd hn h
theorem len_nil : ∀ ws τ G G1, mNil τ G = .ok ws G1 → ws.length = 0 := fun ws τ G G1 e => by cases e; rfl
theorem len_cons {m : M T} {ms : M (List W)} {n : Nat} (h : ∀ ws τ G G1, ms τ G = .ok ws G1 → ws.length = n) : ∀ ws τ G G1, mCons m ms τ G = .ok ws G1 → ws.length = n + 1 := fun ws τ G G1 e => by
  unfold mCons at e
  cases e1 : (m τ G).bind force with
  | ok w G2 =>
    rw [e1] at e
    cases e2 : ms τ G2 with
    | ok us G3 =>
      have e' : ((ms τ G2).bind fun ws G2 => R.ok (w :: ws) G2) = R.ok ws G1 := e
      rw [e2] at e'
      cases e'
      rw [List.length_cons, h us τ G2 _ e2]
    | ex _ _ _ =>
      have e' : ((ms τ G2).bind fun ws G2 => R.ok (w :: ws) G2) = R.ok ws G1 := e
      rw [e2] at e'; cases e'
    | bad =>
      have e' : ((ms τ G2).bind fun ws G2 => R.ok (w :: ws) G2) = R.ok ws G1 := e
      rw [e2] at e'; cases e'
  | ex _ _ _ => rw [e1] at e; cases e
  | bad => rw [e1] at e; cases e
theorem len_dws {ma : M (List W)} {dws : List W} {n k : Nat} (h : ∀ ws τ G G1, ma τ G = .ok ws G1 → ws.length = n) (hk : n + dws.length = k) : ∀ ws τ G G1, ma τ G = .ok ws G1 → (ws ++ dws).length = k := fun ws τ G G1 e => by
  rw [List.length_append, h ws τ G G1 e, hk]

/-! built-ins -/
def SaysC (X : Cx) (ca : Nat → Addr) (r : List V → Hp → VK → Prop) (f : List T → GH → R T) : Prop :=
  ∀ (Wx : WX) (σ : SSt) (ρ : List Addr) (G : GH) (H H0 : Hp) (xs : List V) (ts : List T) (Q : VK), Rep X.K ca ρ G H → RelTs X.K ca H0 ρ H xs ts →
    Post X.K ca Wx σ ρ H (fun t _ ρ' H' => ∀ v, RelT X.K ca H ρ' H' v t → Q v H') (f ts G) → r xs H Q
def mBi (f : List T → GH → R T) (ma : M (List T)) : M T := fun τ G => (ma τ G).bind f
theorem bi_in {r : List V → Hp → VK → Prop} {f : List T → GH → R T} (hs : SaysC X ca r f) {ma : M (List T)} {σ : SSt} {H : Hp} {Q : VK} (h : tE X.K ca Wx (mBi f ma) σ H Q) : tCB r (tB X.K ca Wx ma) σ H Q := by
  obtain ⟨ρ, G, τ, r0, s0, h⟩ := h
  refine tB.seq r0 s0 h fun ts G1 ρ1 H1 vs x1 r1 s1 q1 h1 => ?_
  exact hs Wx σ ρ1 G1 H1 H vs ts Q r1 q1 (h1.imp fun t G' ρ' H' x' _ q v rv => q v (rv.back x1 x'))
theorem s_bi {x : Str} {id : String} {p : Pos} {r : List V → Hp → VK → Prop} {f : List T → GH → R T} {e : Expr} {es : List Expr} {ma : M (List T)} (hc : CallR X (.builtin id) r) (hs : SaysC X ca r f) (hg : Gl X x) (hm : X.mg x = none) (hv : bootBuiltins x = some (.builtin id)) (ha : PA X (e :: es) (tB X.K ca Wx ma))
    (hn : x ≠ "__name__" := by decide) (hdb : (x == ("__debug__" : Str)) = false := by decide) (he : starEach (e :: es) X.env = (false, eval e X.env) :: starEach es X.env := by rfl) (hpl : (backTo pos (starEach es X.env)).any (·.1) = false := by rfl) :
    PE X (.Call (.Name x p) (e :: es) [] pos) (tE X.K ca Wx (mBi f ma)) := PE.weak (pe_callB hc hg hm hv ha hn hdb he hpl) fun _ _ _ h => bi_in hs h
theorem s_bty {x : Str} {id : String} {p : Pos} {r : List V → Hp → VK → Prop} {f : List T → GH → R T} {e : Expr} {es : List Expr} {ma : M (List T)} (hc : CallR X (.type id) r) (hs : SaysC X ca r f) (hg : Gl X x) (hm : X.mg x = none) (hv : bootBuiltins x = some (.type id)) (ha : PA X (e :: es) (tB X.K ca Wx ma))
    (hn : x ≠ "__name__" := by decide) (hdb : (x == ("__debug__" : Str)) = false := by decide) (he : starEach (e :: es) X.env = (false, eval e X.env) :: starEach es X.env := by rfl) (hpl : (backTo pos (starEach es X.env)).any (·.1) = false := by rfl) :
    PE X (.Call (.Name x p) (e :: es) [] pos) (tE X.K ca Wx (mBi f ma)) := PE.weak (pe_callTy hc hg hm hv ha hn hdb he hpl) fun _ _ _ h => bi_in hs h
end
end Sy
set_option Elab.async false
set_option linter.all false
set_option maxRecDepth 100000
set_option maxHeartbeats 4000000
namespace Sy
open PySem PySem.Spec PyProof.Rows L2

section
variable {X : Cx} {ca : Nat → Addr} {Wx : WX} {pos : Pos}
/-! len -/
def fLen (ts : List T) (G : GH) : R T := match ts with
  | [.val (.str x)] => if x.length ≤ 16777216 then .ok (.val (.int x.length)) G else .bad
  | [.val (.tup ws)] => .ok (.val (.int ws.length)) G
  | [t] => match rdl t G with
    | some ws => .ok (.val (.int ws.length)) G
    | none => .bad
  | _ => .bad
theorem says_len : SaysC X ca (fun xs H Q => ∃ x n, xs = [x] ∧ LenV X.K x H n ∧ Q (.int n) H) fLen := by
  intro Wx σ ρ G H H0 xs ts Q r q h
  unfold fLen at h
  split at h
  · obtain ⟨v, rfl, qv⟩ := relTs_one q
    cases qv
    split at h
    · rename_i z
      exact ⟨_, _, rfl, ⟨by rw [sizeLine_eq]; exact z, rfl⟩, h ρ H .refl r _ (.int _)⟩
    · exact h.elim
  · obtain ⟨v, rfl, qv⟩ := relTs_one q
    obtain ⟨a, vs, rfl, hv, qs⟩ := relW_tup qv
    exact ⟨_, _, rfl, .inr ⟨vs, hv, rfl⟩, h ρ H .refl r _ (by rw [qs.length]; exact .int _)⟩
  · rename_i t _ _
    obtain ⟨v, rfl, qv⟩ := relTs_one q
    cases e : rdl t G with
    | none => rw [e] at h; exact h.elim
    | some ws =>
      rw [e] at h
      obtain ⟨a, vs, rfl, hv, qs⟩ := rdl_of r qv e
      exact ⟨_, _, rfl, .inl ⟨vs, hv, rfl⟩, h ρ H .refl r _ (by rw [qs.length]; exact .int _)⟩
  · exact h.elim
/-! all, any, sum -/
def blsW : List W → Option (List Bool)
  | [] => some []
  | w :: ws => match w with
    | .bl b => (blsW ws).map (b :: ·)
    | _ => none
def intsW : List W → Option (List Int)
  | [] => some []
  | w :: ws => match w with
    | .int b => (intsW ws).map (b :: ·)
    | _ => none
theorem blsW_of {K : PySem.W.Frag} {ρ : List Addr} {H : Hp} : ∀ {vs : List V} {ws : List W} {bs : List Bool}, RelWs K ca ρ H vs ws → blsW ws = some bs → vs = bs.map V.bl
  | _, [], _, .nil, e => by cases e; rfl
  | _, w :: ws, bs, .cons q t, e => by
    unfold blsW at e
    cases w with
    | bl b =>
      cases e2 : blsW ws with
      | none => dsimp only at e; rw [e2] at e; cases e
      | some cs =>
        dsimp only at e
        rw [e2] at e
        cases e
        cases q
        rw [blsW_of t e2]
        rfl
    | _ => cases e
theorem intsW_of {K : PySem.W.Frag} {ρ : List Addr} {H : Hp} : ∀ {vs : List V} {ws : List W} {bs : List Int}, RelWs K ca ρ H vs ws → intsW ws = some bs → vs = bs.map V.int
  | _, [], _, .nil, e => by cases e; rfl
  | _, w :: ws, bs, .cons q t, e => by
    unfold intsW at e
    cases w with
    | int b =>
      cases e2 : intsW ws with
      | none => dsimp only at e; rw [e2] at e; cases e
      | some cs =>
        dsimp only at e
        rw [e2] at e
        cases e
        cases q
        rw [intsW_of t e2]
        rfl
    | _ => cases e
def fAll (ts : List T) (G : GH) : R T := match ts with
  | [t] => match (rdl t G).bind blsW with
    | some bs => .ok (.val (.bl (bs.all id))) G
    | none => .bad
  | _ => .bad
def fAny (ts : List T) (G : GH) : R T := match ts with
  | [t] => match (rdl t G).bind blsW with
    | some bs => .ok (.val (.bl (bs.any id))) G
    | none => .bad
  | _ => .bad
def fSum (ts : List T) (G : GH) : R T := match ts with
  | [t] => match (rdl t G).bind intsW with
    | some bs => .ok (.val (.int bs.sum)) G
    | none => .bad
  | _ => .bad
theorem says_all : SaysC X ca (rAll X.K) fAll := by
  intro Wx σ ρ G H H0 xs ts Q r q h
  unfold fAll at h
  split at h
  · rename_i t
    obtain ⟨v, rfl, qv⟩ := relTs_one q
    cases e : rdl t G with
    | none => rw [e] at h; exact h.elim
    | some ws =>
      cases e2 : blsW ws with
      | none => rw [e, Option.bind_some, e2] at h; exact h.elim
      | some bs =>
        rw [e, Option.bind_some, e2] at h
        obtain ⟨a, vs, rfl, hv, qs⟩ := rdl_of r qv e
        exact ⟨a, bs, rfl, by rw [← blsW_of qs e2]; exact hv, h ρ H .refl r _ (.bl _)⟩
  · exact h.elim
theorem says_any : SaysC X ca (rAny X.K) fAny := by
  intro Wx σ ρ G H H0 xs ts Q r q h
  unfold fAny at h
  split at h
  · rename_i t
    obtain ⟨v, rfl, qv⟩ := relTs_one q
    cases e : rdl t G with
    | none => rw [e] at h; exact h.elim
    | some ws =>
      cases e2 : blsW ws with
      | none => rw [e, Option.bind_some, e2] at h; exact h.elim
      | some bs =>
        rw [e, Option.bind_some, e2] at h
        obtain ⟨a, vs, rfl, hv, qs⟩ := rdl_of r qv e
        exact ⟨a, bs, rfl, by rw [← blsW_of qs e2]; exact hv, h ρ H .refl r _ (.bl _)⟩
  · exact h.elim
theorem says_sum : SaysC X ca (rSum X.K) fSum := by
  intro Wx σ ρ G H H0 xs ts Q r q h
  unfold fSum at h
  split at h
  · rename_i t
    obtain ⟨v, rfl, qv⟩ := relTs_one q
    cases e : rdl t G with
    | none => rw [e] at h; exact h.elim
    | some ws =>
      cases e2 : intsW ws with
      | none => rw [e, Option.bind_some, e2] at h; exact h.elim
      | some bs =>
        rw [e, Option.bind_some, e2] at h
        obtain ⟨a, vs, rfl, hv, qs⟩ := rdl_of r qv e
        exact ⟨a, bs, rfl, by rw [← intsW_of qs e2]; exact hv, h ρ H .refl r _ (.int _)⟩
  · exact h.elim
/-! int, list, tuple, divmod -/
def fInt (ts : List T) (G : GH) : R T := match ts with
  | [.val (.int i)] => .ok (.val (.int i)) G
  | [.val (.bl b)] => .ok (.val (.int (if b then 1 else 0))) G
  | _ => .bad
theorem says_int : SaysC X ca (fun xs H Q => (∃ i, xs = [.int i] ∧ Q (.int i) H) ∨ ∃ k, xs = [.bl k] ∧ Q (.int (if k then 1 else 0)) H) fInt := by
  intro Wx σ ρ G H H0 xs ts Q r q h
  unfold fInt at h
  split at h
  · obtain ⟨v, rfl, qv⟩ := relTs_one q
    cases qv
    exact .inl ⟨_, rfl, h ρ H .refl r _ (.int _)⟩
  · obtain ⟨v, rfl, qv⟩ := relTs_one q
    cases qv
    exact .inr ⟨_, rfl, h ρ H .refl r _ (.int _)⟩
  · exact h.elim
def fList (ts : List T) (G : GH) : R T := match ts with
  | [.val (.tup ws)] => .ok (.tmp ws) G
  | [t] => match rdl t G with
    | some ws => .ok (.tmp ws) G
    | none => .bad
  | _ => .bad
theorem says_list : SaysC X ca (fun xs H Q => ∃ p ys, xs = [.ref p] ∧ (SqL X.K H p ys ∨ SqT X.K H p ys) ∧ ∀ l, H l = none → Q (.ref l) (upd H l (.lst ys))) fList := by
  intro Wx σ ρ G H H0 xs ts Q r q h
  unfold fList at h
  split at h
  · obtain ⟨v, rfl, qv⟩ := relTs_one q
    obtain ⟨a, vs, rfl, hv, qs⟩ := relW_tup qv
    exact ⟨a, vs, rfl, .inr hv, fun l hl => h ρ _ (.laid hl) (r.laid hl) _ (fresh_tmp r hl qs)⟩
  · rename_i t _
    obtain ⟨v, rfl, qv⟩ := relTs_one q
    cases e : rdl t G with
    | none => rw [e] at h; exact h.elim
    | some ws =>
      rw [e] at h
      obtain ⟨a, vs, rfl, hv, qs⟩ := rdl_of r qv e
      exact ⟨a, vs, rfl, .inl hv, fun l hl => h ρ _ (.laid hl) (r.laid hl) _ (fresh_tmp r hl qs)⟩
  · exact h.elim
def fTuple (ts : List T) (G : GH) : R T := match ts with
  | [.val (.tup ws)] => .ok (.val (.tup ws)) G
  | [t] => match rdl t G with
    | some ws => .ok (.val (.tup ws)) G
    | none => .bad
  | _ => .bad
theorem says_tuple : SaysC X ca (fun xs H Q => ∃ p ys, xs = [.ref p] ∧ ((SqL X.K H p ys ∧ ∀ l, H l = none → Q (.ref l) (upd H l (.tup ys))) ∨ (SqT X.K H p ys ∧ Q (.ref p) H))) fTuple := by
  intro Wx σ ρ G H H0 xs ts Q r q h
  unfold fTuple at h
  split at h
  · obtain ⟨v, rfl, qv⟩ := relTs_one q
    have qv' : RelW X.K ca ρ H v _ := qv
    obtain ⟨a, vs, rfl, hv, qs⟩ := relW_tup qv'
    exact ⟨a, vs, rfl, .inr ⟨hv, h ρ H .refl r _ qv'⟩⟩
  · rename_i t _
    obtain ⟨v, rfl, qv⟩ := relTs_one q
    cases e : rdl t G with
    | none => rw [e] at h; exact h.elim
    | some ws =>
      rw [e] at h
      obtain ⟨a, vs, rfl, hv, qs⟩ := rdl_of r qv e
      exact ⟨a, vs, rfl, .inl ⟨hv, fun l hl => h ρ _ (.laid hl) (r.laid hl) _ (RelW.tup' (.of upd_same) (relWs_ext qs r (.laid hl)))⟩⟩
  · exact h.elim
def fDivmod (ts : List T) (G : GH) : R T := match ts with
  | [.val (.int i), .val (.int j)] => if decide (0 < j) && decide (j < 1073741824) then .ok (.val (.tup [.int (i / j), .int (i % j)])) G else .bad
  | _ => .bad
theorem says_divmod : SaysC X ca (fun xs H Q => ∃ i j, xs = [.int i, .int j] ∧ CDiv i j ∧ ∀ p, H p = none → Q (.ref p) (upd H p (.tup [.int (i / j), .int (i % j)]))) fDivmod := by
  intro Wx σ ρ G H H0 xs ts Q r q h
  unfold fDivmod at h
  split at h
  · split at h
    · rename_i z
      obtain ⟨v, u, rfl, qv, qu⟩ := relTs_two q
      cases qv; cases qu
      rw [Bool.and_eq_true] at z
      exact ⟨_, _, rfl, ⟨of_decide_eq_true z.1, of_decide_eq_true z.2⟩, fun l hl => h ρ _ (.laid hl) (r.laid hl) _ (RelW.tup' (.of upd_same) (.cons (.int _) (.cons (.int _) .nil)))⟩
    · exact h.elim
  · exact h.elim
/-! isinstance against built-in types -/
def tyOf (G : GH) : T → Option String
  | .tmp _ => some "list"
  | .val w => match w with
    | .non => some "NoneType"
    | .bl _ => some "bool"
    | .int _ => some "int"
    | .str _ => some "str"
    | .tup _ => some "tuple"
    | .loc n => match G[n]? with
      | some (.lst _) => some "list"
      | some (.dK _) => some "dict"
      | some (.dT _) => some "dict"
      | _ => none
    | .frl _ => some "list"
    | .ty _ => none
    | .cls _ => none
    | .exn _ _ => none
def subTy (a b : String) : Option Bool :=
  if b = "int" then some (a == "int" || a == "bool") else if b = "bool" then some (a == "bool") else if b = "str" then some (a == "str")
  else if b = "list" then some (a == "list") else if b = "tuple" then some (a == "tuple") else if b = "dict" then some (a == "dict") else none
theorem subTy_ok {K : PySem.W.Frag} {a b : String} {r : Bool} (ha : a = "list" ∨ a = "NoneType" ∨ a = "bool" ∨ a = "int" ∨ a = "str" ∨ a = "tuple" ∨ a = "dict") (h : subTy a b = some r) : PySem.W.kitOne K (.type a) (.type b) = some r := by
  apply kit_ty
  unfold subTy at h
  split at h
  · rename_i e; subst e; rcases ha with rfl | rfl | rfl | rfl | rfl | rfl | rfl <;> (cases h; decide +kernel)
  · split at h
    · rename_i e; subst e; rcases ha with rfl | rfl | rfl | rfl | rfl | rfl | rfl <;> (cases h; decide +kernel)
    · split at h
      · rename_i e; subst e; rcases ha with rfl | rfl | rfl | rfl | rfl | rfl | rfl <;> (cases h; decide +kernel)
      · split at h
        · rename_i e; subst e; rcases ha with rfl | rfl | rfl | rfl | rfl | rfl | rfl <;> (cases h; decide +kernel)
        · split at h
          · rename_i e; subst e; rcases ha with rfl | rfl | rfl | rfl | rfl | rfl | rfl <;> (cases h; decide +kernel)
          · split at h
            · rename_i e; subst e; rcases ha with rfl | rfl | rfl | rfl | rfl | rfl | rfl <;> (cases h; decide +kernel)
            · cases h
theorem sqT_ty {K : PySem.W.Frag} {H : Hp} {a : Addr} {vs : List V} (h : SqT K H a vs) : TyX K H (.ref a) (.type "tuple") := by
  rcases h with h | ⟨o, its, n, hk, hc, _⟩
  · rcases h with h | ⟨o, h⟩
    · exact .base (.tup h)
    · exact .fTuple h
  · exact .kTuple hk hc
theorem tyOf_ok {K : PySem.W.Frag} {ρ : List Addr} {G : GH} {H H0 : Hp} {v : V} {t : T} {a : String} (r : Rep K ca ρ G H) (q : RelT K ca H0 ρ H v t) (h : tyOf G t = some a) :
    TyX K H v (.type a) ∧ (a = "list" ∨ a = "NoneType" ∨ a = "bool" ∨ a = "int" ∨ a = "str" ∨ a = "tuple" ∨ a = "dict") := by
  cases t with
  | tmp ws =>
    cases h
    obtain ⟨p, vs, rfl, _, _, hp, _⟩ := q
    exact ⟨.base (.lst hp), .inl rfl⟩
  | val w =>
    cases w with
    | non => cases h; cases q; exact ⟨.base .non, by simp⟩
    | bl b => cases h; cases q; exact ⟨.base (.bl b), by simp⟩
    | int b => cases h; cases q; exact ⟨.base (.int b), by simp⟩
    | str b => cases h; cases q; exact ⟨.base (.str b), by simp⟩
    | tup ws =>
      cases h
      obtain ⟨a, vs, rfl, hv, _⟩ := relW_tup q
      exact ⟨sqT_ty hv, by simp⟩
    | loc n =>
      cases q with
      | loc hn =>
        obtain ⟨o, e, ho⟩ := r.at hn
        unfold tyOf at h
        dsimp only at h
        rw [e] at h
        cases o with
        | lst ws => cases h; obtain ⟨vs, e, _⟩ := ho; exact ⟨.base (.lst e), by simp⟩
        | dK ws => cases h; obtain ⟨vs, e, _⟩ := ho; exact ⟨.base (.dK e), by simp⟩
        | dT ws => cases h; obtain ⟨vs, e, _⟩ := ho; exact ⟨.base (.dT e), by simp⟩
        | ins c fs => cases h
    | frl ws =>
      cases h
      obtain ⟨a, vs, rfl, hv, _⟩ := relW_frl q
      refine ⟨?_, by simp⟩
      rcases hv with ⟨o, hv⟩ | ⟨o, its, n, hk, hc, _⟩
      · exact .base (.frz hv)
      · exact .kList hk hc
    | ty n => cases h
    | cls n => cases h
    | exn n a => cases h
def fIsi (ts : List T) (G : GH) : R T := match ts with
  | [t, .val (.ty b)] => match (tyOf G t).bind fun a => subTy a b with
    | some r => .ok (.val (.bl r)) G
    | none => .bad
  | _ => .bad
theorem says_isi : SaysC X ca (rIsi X.K) fIsi := by
  intro Wx σ ρ G H H0 xs ts Q r q h
  unfold fIsi at h
  split at h
  · rename_i t b
    obtain ⟨v, u, rfl, qv, qu⟩ := relTs_two q
    cases qu
    cases e : tyOf G t with
    | none => rw [e] at h; exact h.elim
    | some a =>
      cases e2 : subTy a b with
      | none => rw [e, Option.bind_some, e2] at h; exact h.elim
      | some c =>
        rw [e, Option.bind_some, e2] at h
        obtain ⟨h1, h2⟩ := tyOf_ok r qv e
        exact ⟨v, .ty b, .type a, .type b, c, rfl, .ty b, h1, subTy_ok h2 e2, h ρ H .refl r _ (.bl _)⟩
  · exact h.elim
/-- a built-in class as a value -/
theorem s_ty {x : Str} {n : String} (hg : Gl X x) (hm : X.mg x = none) (hv : bootBuiltins x = some (.type n)) (hn : x ≠ "__name__" := by decide) (hd : (x == ("__debug__" : Str)) = false := by decide) : PE X (.Name x pos) (tE X.K ca Wx (mC (.ty n))) :=
  s_const (pe_bltn (v := .ty n) hg hm hv rfl hn hd) fun _ _ => .ty n

/-! in, not in -/
def strIn (i j : Str) : Bool := !(Builtin.Str.occurrences j i 0 j.length 1).isEmpty
def vOf : W → Option V
  | .non => some .non | .bl b => some (.bl b) | .int i => some (.int i) | .str x => some (.str x) | _ => none
def inB (x y : T) (G : GH) : Option Bool := match y with
  | .val (.str j) => match x with
    | .val (.str i) => some (strIn i j)
    | _ => none
  | .val (.tup ws) => match x with
    | .val w => (vOf w).bind fun v => (mapO vOf ws).bind fun vs => some (inV v vs)
    | _ => none
  | y => match toDT G x, toDT G y with
    | some d, some (.list ds) => some (ds.any fun z => PyData.eqv z d)
    | _, _ => none
def fIn (x y : T) (G : GH) : R T := match inB x y G with
  | some b => .ok (.val (.bl b)) G
  | none => .bad
def fNotIn (x y : T) (G : GH) : R T := match inB x y G with
  | some b => .ok (.val (.bl (!b))) G
  | none => .bad
def rInA (K : PySem.W.Frag) : R2 := fun x y H Q => rInD K x y H Q ∨ rIn K false x y H Q ∨ (∃ i j, x = .str i ∧ y = .str j ∧ Q (.bl (!(Builtin.Str.occurrences j i 0 j.length 1).isEmpty)) H)
def rNotInA (K : PySem.W.Frag) : R2 := fun x y H Q => rNotInD K x y H Q ∨ rIn K true x y H Q ∨ (∃ i j, x = .str i ∧ y = .str j ∧ Q (.bl (!(!(Builtin.Str.occurrences j i 0 j.length 1).isEmpty))) H)
theorem op_inA (hu : X.A.units + 65 < cLine) : OpR X (compareOp .In) (rInA X.K) := (op_inD hu).or (op_in_seq.or op_in_str)
theorem op_notInA (hu : X.A.units + 65 < cLine) : OpR X (compareOp .NotIn) (rNotInA X.K) := (op_notInD hu).or (op_notIn_seq.or op_notin_str)
theorem vOf_ok {K : PySem.W.Frag} {ρ : List Addr} {H : Hp} {v v' : V} {w : W} (q : RelW K ca ρ H v w) (h : vOf w = some v') : v = v' ∧ flatV v' = true := by
  cases w with
  | non => cases q; cases h; exact ⟨rfl, rfl⟩
  | bl b => cases q; cases h; exact ⟨rfl, rfl⟩
  | int b => cases q; cases h; exact ⟨rfl, rfl⟩
  | str x => cases q; cases h; exact ⟨rfl, rfl⟩
  | _ => cases h
theorem vOfs_ok {K : PySem.W.Frag} {ρ : List Addr} {H : Hp} : ∀ {vs vs' : List V} {ws : List W}, RelWs K ca ρ H vs ws → mapO vOf ws = some vs' → vs = vs' ∧ vs'.all flatV = true
  | _, _, [], .nil, h => by cases h; exact ⟨rfl, rfl⟩
  | _, vs', w :: ws, .cons q t, h => by
    unfold mapO at h
    cases e1 : vOf w with
    | none => rw [e1] at h; cases h
    | some v =>
      cases e2 : mapO vOf ws with
      | none => rw [e1, e2] at h; cases h
      | some us =>
        rw [e1, e2] at h; cases h
        obtain ⟨rfl, f1⟩ := vOf_ok q e1
        obtain ⟨rfl, f2⟩ := vOfs_ok t e2
        exact ⟨rfl, by rw [List.all_cons, f1, f2]; rfl⟩
theorem in_ok {K : PySem.W.Frag} {ρ : List Addr} {G : GH} {H H0 : Hp} {x y : V} {s t : T} {b : Bool} (r : Rep K ca ρ G H) (qx : RelT K ca H0 ρ H x s) (qy : RelT K ca H0 ρ H y t) (e : inB s t G = some b) :
    (∃ d ds, Dp K H x d ∧ Dp K H y (.list ds) ∧ SeqAt.shaped d = true ∧ SeqAt.shaped (.list ds) = true ∧ b = ds.any fun z => PyData.eqv z d) ∨ (∃ i j, x = .str i ∧ y = .str j ∧ b = strIn i j) ∨
      ∃ p xs, y = .ref p ∧ (SqL K H p xs ∨ SqT K H p xs) ∧ flatV x = true ∧ xs.all flatV = true ∧ b = inV x xs := by
  unfold inB at e
  split at e
  · split at e
    · cases qx; cases qy; cases e
      exact .inr (.inl ⟨_, _, rfl, rfl, rfl⟩)
    · cases e
  · rename_i ws
    split at e
    · rename_i w
      cases e1 : vOf w with
      | none => rw [e1] at e; cases e
      | some v =>
        cases e2 : mapO vOf ws with
        | none => rw [e1, e2] at e; cases e
        | some us =>
          rw [e1, e2] at e; cases e
          obtain ⟨a, vs, rfl, hv, qs⟩ := relW_tup qy
          obtain ⟨rfl, f1⟩ := vOf_ok qx e1
          obtain ⟨rfl, f2⟩ := vOfs_ok qs e2
          exact .inr (.inr ⟨a, vs, rfl, .inr hv, f1, f2, rfl⟩)
    · cases e
  · split at e
    · rename_i d ds e1 e2
      cases e
      obtain ⟨a1, a2⟩ := toDT_dp r qx e1
      obtain ⟨b1, b2⟩ := toDT_dp r qy e2
      exact .inl ⟨d, ds, a1, b1, a2, b2, rfl⟩
    · cases e
theorem says_isin : Says2 X ca (rInA X.K) fIn := by
  intro Wx σ ρ G H H0 x y s t Q r qx qy hp
  unfold fIn at hp
  cases e : inB s t G with
  | none => rw [e] at hp; exact hp.elim
  | some b =>
    rw [e] at hp
    have q := hp ρ H .refl r _ (.bl b)
    rcases in_ok r qx qy e with ⟨d, ds, a, b', c, d', rfl⟩ | ⟨i, j, rfl, rfl, rfl⟩ | ⟨p, xs, rfl, hq, f1, f2, rfl⟩
    · exact .inl ⟨d, ds, a, b', c, d', q⟩
    · exact .inr (.inr ⟨i, j, rfl, rfl, q⟩)
    · exact .inr (.inl ⟨p, xs, rfl, hq, f1, f2, q⟩)
theorem says_notIn : Says2 X ca (rNotInA X.K) fNotIn := by
  intro Wx σ ρ G H H0 x y s t Q r qx qy hp
  unfold fNotIn at hp
  cases e : inB s t G with
  | none => rw [e] at hp; exact hp.elim
  | some b =>
    rw [e] at hp
    have q := hp ρ H .refl r _ (.bl (!b))
    rcases in_ok r qx qy e with ⟨d, ds, a, b', c, d', rfl⟩ | ⟨i, j, rfl, rfl, rfl⟩ | ⟨p, xs, rfl, hq, f1, f2, rfl⟩
    · exact .inl ⟨d, ds, a, b', c, d', q⟩
    · exact .inr (.inr ⟨i, j, rfl, rfl, q⟩)
    · exact .inr (.inl ⟨p, xs, rfl, hq, f1, f2, q⟩)

/-! subscripts -/
def fIx (x y : T) (G : GH) : R T := match y with
  | .val (.int i) => match x with
    | .val (.str z) => if z.length ≤ 16777216 then match atI z.cps.toList i with
        | some c => .ok (.val (.str ⟨#[c]⟩)) G
        | none => .bad
      else .bad
    | .val (.tup ws) => match atI ws i with
      | some w => .ok (.val w) G
      | none => .bad
    | t => match (rdl t G).bind fun ws => atI ws i with
      | some w => .ok (.val w) G
      | none => .bad
  | _ => .bad
theorem relWs_atI {K : PySem.W.Frag} {ρ : List Addr} {H : Hp} {vs : List V} {ws : List W} {i : Int} {w : W} (q : RelWs K ca ρ H vs ws) (e : atI ws i = some w) : ∃ v, atI vs i = some v ∧ RelW K ca ρ H v w := by
  unfold atI at e ⊢
  rw [q.length]
  cases e1 : ixN ws.length i with
  | none => rw [e1] at e; cases e
  | some j =>
    rw [e1] at e
    exact relWs_get q e
theorem says_ix : Says2 X ca (rIx X.K) fIx := by
  intro Wx σ ρ G H H0 x y s t Q r qx qy hp
  unfold fIx at hp
  split at hp
  · rename_i i
    cases qy
    split at hp
    · rename_i z
      cases qx
      split at hp
      · rename_i hz
        cases e : atI z.cps.toList i with
        | none => rw [e] at hp; exact hp.elim
        | some c =>
          rw [e] at hp
          exact .inr (.inr ⟨z, i, c, rfl, rfl, by rw [sizeLine_eq]; exact hz, e, hp ρ H .refl r _ (.str _)⟩)
      · exact hp.elim
    · rename_i ws
      obtain ⟨a, vs, rfl, hv, qs⟩ := relW_tup qx
      cases e : atI ws i with
      | none => rw [e] at hp; exact hp.elim
      | some w =>
        rw [e] at hp
        obtain ⟨v, e2, q2⟩ := relWs_atI qs e
        exact .inr (.inl ⟨a, vs, i, v, rfl, rfl, hv, e2, hp ρ H .refl r v q2⟩)
    · cases e : rdl s G with
      | none => rw [e] at hp; exact hp.elim
      | some ws =>
        rw [e, Option.bind_some] at hp
        cases e1 : atI ws i with
        | none => rw [e1] at hp; exact hp.elim
        | some w =>
          rw [e1] at hp
          obtain ⟨a, vs, rfl, hv, qs⟩ := rdl_of r qx e
          obtain ⟨v, e2, q2⟩ := relWs_atI qs e1
          exact .inl ⟨a, vs, i, v, rfl, rfl, hv, e2, hp ρ H .refl r v q2⟩
  · exact hp.elim
theorem s_ix {a b : Expr} {ma mb : M T} (ha : PE X a (tE X.K ca Wx ma)) (hb : PE X b (tE X.K ca Wx mb)) (hs : PlainIx b := by exact fun _ _ => rfl) : PE X (.Subscript a b pos) (tE X.K ca Wx (mBin fIx ma mb)) :=
  PE.weak (pe_ix ix_seq ha hb hs) fun _ _ _ h => Sy.says_in (f := fIx) says_ix h
end
end Sy
set_option Elab.async false
set_option linter.all false
set_option maxRecDepth 100000
set_option maxHeartbeats 4000000
namespace Sy
open PySem PySem.Spec PyProof.Rows L2

section
variable {K : PySem.W.Frag} {ca : Nat → Addr} {ρ : List Addr} {G : GH} {H : Hp}
/-- a list is changed -/
theorem Rep.put (r : Rep K ca ρ G H) {n : Nat} {a : Addr} {us vs : List V} {ws : List W} (hn : ρ[n]? = some a) (ha : H a = some (.lst us)) (q : RelWs K ca ρ H vs ws) : Rep K ca ρ (G.set n (.lst ws)) (upd H a (.lst vs)) := by
  have nt := ns_lst ha
  refine ⟨by rw [List.length_set]; exact r.len, r.nd, fun m b o e1 e2 => ?_⟩
  by_cases hm : n = m
  · subst hm
    rw [hn] at e1
    cases e1
    rw [List.getElem?_set_self (by rw [← r.len]; exact (List.getElem?_eq_some_iff.mp hn).1)] at e2
    cases e2
    exact ⟨vs, upd_same, paired_imp q fun _ _ z => z.mono (fun _ _ h => h) (Stay.put nt)⟩
  · rw [List.getElem?_set_ne hm] at e2
    refine objR_mono (r.obj m b o e1 e2) (fun _ _ h => h) (Stay.put nt) (upd_ne fun e => hm ?_)
    subst e
    exact (nodup_at r.nd hn e1)
where
  nodup_at {ρ : List Addr} (h : ρ.Nodup) {i j : Nat} {a : Addr} (e1 : ρ[i]? = some a) (e2 : ρ[j]? = some a) : i = j := by
    obtain ⟨h1, e1⟩ := List.getElem?_eq_some_iff.mp e1
    obtain ⟨h2, e2⟩ := List.getElem?_eq_some_iff.mp e2
    exact (List.getElem_inj h).mp (e1.trans e2.symm)
theorem Ext.put {n : Nat} {a : Addr} {o : HO} (hn : ρ[n]? = some a) : Ext ρ H ρ (upd H a o) :=
  ⟨fun _ _ h => h, fun _ h => .inl h, fun b u hb e => by
    have nb : b ≠ a := fun z => by subst z; exact hb (List.mem_of_getElem? hn)
    rw [upd_ne nb]; exact e⟩
end

section
variable {X : Cx} {ca : Nat → Addr} {Wx : WX} {pos : Pos}
/-! methods of lists -/
def SaysM (X : Cx) (ca : Nat → Addr) (r : V → List V → Hp → VK → Prop) (f : T → List T → GH → R T) : Prop :=
  ∀ (Wx : WX) (σ : SSt) (ρ : List Addr) (G : GH) (H H0 : Hp) (x : V) (t : T) (xs : List V) (ts : List T) (Q : VK), Rep X.K ca ρ G H → RelT X.K ca H0 ρ H x t → RelTs X.K ca H0 ρ H xs ts →
    Post X.K ca Wx σ ρ H (fun t _ ρ' H' => ∀ v, RelT X.K ca H ρ' H' v t → Q v H') (f t ts G) → r x xs H Q
def isLst (t : T) (G : GH) : Bool := (rdl t G).isSome
def isStr : T → GH → Bool
  | .val (.str _), _ => true
  | _, _ => false
def mMt (ty : T → GH → Bool) (f : T → List T → GH → R T) (mo : M T) (ma : M (List T)) : M T := fun τ G => (mo τ G).bind fun x G1 => if ty x G1 then (ma τ G1).bind fun ts G2 => f x ts G2 else .bad
def TyOk (X : Cx) (ca : Nat → Addr) (ty : T → GH → Bool) (n : String) : Prop := ∀ (ρ : List Addr) (G : GH) (H H0 : Hp) (x : V) (t : T), Rep X.K ca ρ G H → RelT X.K ca H0 ρ H x t → ty t G = true → tyV X.K n x H
theorem ty_list : TyOk X ca isLst "list" := by
  intro ρ G H H0 x t r q h
  unfold isLst at h
  cases e : rdl t G with
  | none => rw [e] at h; cases h
  | some ws =>
    obtain ⟨a, vs, rfl, hv, _⟩ := rdl_of r q e
    exact .inl ⟨rfl, vs, hv⟩
theorem ty_str : TyOk X ca isStr "str" := by
  intro ρ G H H0 x t r q h
  unfold isStr at h
  split at h
  · cases q; exact rfl
  · cases h
theorem mt_in {r : V → List V → Hp → VK → Prop} {f : T → List T → GH → R T} {ty : T → GH → Bool} {n : String} (hs : SaysM X ca r f) (ht : TyOk X ca ty n) {mo : M T} {ma : M (List T)} {σ : SSt} {H : Hp} {Q : VK} (h : tE X.K ca Wx (mMt ty f mo ma) σ H Q) :
    tBM X.K n r (tE X.K ca Wx mo) (tB X.K ca Wx ma) σ H Q := by
  obtain ⟨ρ, G, τ, r0, s0, h⟩ := h
  refine tE.seq r0 s0 h fun t G1 ρ1 H1 v x1 r1 s1 q1 h1 => ?_
  cases e : ty t G1 with
  | false => rw [e] at h1; exact h1.elim
  | true =>
    rw [e, if_pos rfl] at h1
    refine ⟨ht ρ1 G1 H1 H v t r1 q1 e, tB.seq r1 s1 h1 fun ts G2 ρ2 H2 vs x2 r2 s2 q2 h2 => ?_⟩
    exact hs Wx σ ρ2 G2 H2 H v t vs ts Q r2 (q1.ext r1 x2) (paired_imp q2 fun _ _ z => z.back x1 x2) (h2.imp fun t G' ρ' H' x' _ q v rv => q v (rv.back (x1.trans x2) x'))
theorem mt_in0 {r : V → List V → Hp → VK → Prop} {f : T → List T → GH → R T} {ty : T → GH → Bool} {n : String} (hs : SaysM X ca r f) (ht : TyOk X ca ty n) {mo : M T} {σ : SSt} {H : Hp} {Q : VK} (h : tE X.K ca Wx (mMt ty f mo mNilT) σ H Q) :
    tBM0 X.K n r (tE X.K ca Wx mo) σ H Q := by
  obtain ⟨ρ, G, τ, r0, s0, h⟩ := h
  refine tE.seq r0 s0 h fun t G1 ρ1 H1 v x1 r1 s1 q1 h1 => ?_
  cases e : ty t G1 with
  | false => rw [e] at h1; exact h1.elim
  | true =>
    rw [e, if_pos rfl] at h1
    exact ⟨ht ρ1 G1 H1 H v t r1 q1 e, hs Wx σ ρ1 G1 H1 H v t [] [] Q r1 q1 .nil (h1.imp fun t G' ρ' H' x' _ q v rv => q v (rv.back x1 x'))⟩
variable {o e : Expr} {es : List Expr} {name : Str} {apos cpos : Pos} {n id : String} {r : V → List V → Hp → VK → Prop} {f : T → List T → GH → R T} {ty : T → GH → Bool} {mo : M T} {ma : M (List T)}
theorem s_mt (pa : PlainAttrs n) (slot : Slot n name id) (hty : typeOf (.builtin id) = pure (.type "method_descriptor")) (hm : MtR X id r) (hs : SaysM X ca r f) (ht : TyOk X ca ty n) (ho : PE X o (tE X.K ca Wx mo)) (ha : PA X (e :: es) (tB X.K ca Wx ma))
    (hbase : attributeBase o name X.env (eval o X.env) = eval o X.env := by rfl)
    (hfew : ((backTo cpos (starEach (e :: es) X.env)).all (fun x => !x.1) && (backToKw cpos (keywordEach [] X.env)).all (fun x => x.1.isSome)
      && decide ((e :: es).length + ([] : List Keyword).length + (if ([] : List Keyword).isEmpty then 0 else 1) < 30)) = true := by rfl)
    (hline : (apos.endLine == cpos.line) = true := by rfl) (hst : starEach (e :: es) X.env = (false, eval e X.env) :: starEach es X.env := by rfl) (hplain : (backTo cpos (starEach es X.env)).any (·.1) = false := by rfl) :
    PE X (.Call (.Attribute o name apos) (e :: es) [] cpos) (tE X.K ca Wx (mMt ty f mo ma)) := PE.weak (pe_bm pa slot hty hm ho ha hbase hfew hline hst hplain) fun _ _ _ h => mt_in hs ht h
theorem s_mt0 (pa : PlainAttrs n) (slot : Slot n name id) (hty : typeOf (.builtin id) = pure (.type "method_descriptor")) (hm : MtR X id r) (hs : SaysM X ca r f) (ht : TyOk X ca ty n) (ho : PE X o (tE X.K ca Wx mo))
    (hbase : attributeBase o name X.env (eval o X.env) = eval o X.env := by rfl) (hline : (apos.endLine == cpos.line) = true := by rfl) : PE X (.Call (.Attribute o name apos) [] [] cpos) (tE X.K ca Wx (mMt ty f mo mNilT)) :=
  PE.weak (pe_bm0 pa slot hty hm ho hbase hline) fun _ _ _ h => mt_in0 hs ht h

/-- the list at a place, to be changed -/
def lstAt (t : T) (G : GH) : Option (Nat × List W) := match t with
  | .val (.loc n) => (G[n]?.bind GO.wr).map fun ws => (n, ws)
  | _ => none
theorem lstAt_of {K : PySem.W.Frag} {ρ : List Addr} {G : GH} {H H0 : Hp} {v : V} {t : T} {n : Nat} {ws : List W} (r : Rep K ca ρ G H) (q : RelT K ca H0 ρ H v t) (h : lstAt t G = some (n, ws)) :
    ∃ a vs, v = .ref a ∧ ρ[n]? = some a ∧ H a = some (.lst vs) ∧ RelWs K ca ρ H vs ws := by
  cases t with
  | tmp us => cases h
  | val w =>
    cases w with
    | loc m =>
      cases q with
      | loc hn =>
        obtain ⟨o, e, ho⟩ := r.at hn
        have h : (G[m]?.bind GO.wr).map (fun ws => (m, ws)) = some (n, ws) := h
        rw [e] at h
        cases o with
        | lst us => cases h; obtain ⟨vs, e, q⟩ := ho; exact ⟨_, vs, rfl, hn, e, q⟩
        | _ => cases h
    | _ => cases h
/-! .. whose arguments are kept -/
def SaysMF (X : Cx) (ca : Nat → Addr) (r : V → List V → Hp → VK → Prop) (f : T → List W → GH → R T) : Prop :=
  ∀ (Wx : WX) (σ : SSt) (ρ : List Addr) (G : GH) (H H0 : Hp) (x : V) (t : T) (xs : List V) (ts : List W) (Q : VK), Rep X.K ca ρ G H → RelT X.K ca H0 ρ H x t → RelWs X.K ca ρ H xs ts →
    Post X.K ca Wx σ ρ H (fun t _ ρ' H' => ∀ v, RelT X.K ca H ρ' H' v t → Q v H') (f t ts G) → r x xs H Q
def mMtF (ty : T → GH → Bool) (f : T → List W → GH → R T) (mo : M T) (ma : M (List W)) : M T := fun τ G => (mo τ G).bind fun x G1 => if ty x G1 then (ma τ G1).bind fun ts G2 => f x ts G2 else .bad
theorem mtF_in {r : V → List V → Hp → VK → Prop} {f : T → List W → GH → R T} {ty : T → GH → Bool} {n : String} (hs : SaysMF X ca r f) (ht : TyOk X ca ty n) {mo : M T} {ma : M (List W)} {σ : SSt} {H : Hp} {Q : VK} (h : tE X.K ca Wx (mMtF ty f mo ma) σ H Q) :
    tBM X.K n r (tE X.K ca Wx mo) (tA X.K ca Wx ma) σ H Q := by
  obtain ⟨ρ, G, τ, r0, s0, h⟩ := h
  refine tE.seq r0 s0 h fun t G1 ρ1 H1 v x1 r1 s1 q1 h1 => ?_
  cases e : ty t G1 with
  | false => rw [e] at h1; exact h1.elim
  | true =>
    rw [e, if_pos rfl] at h1
    refine ⟨ht ρ1 G1 H1 H v t r1 q1 e, tA.seq r1 s1 h1 fun ts G2 ρ2 H2 vs x2 r2 s2 q2 h2 => ?_⟩
    exact hs Wx σ ρ2 G2 H2 H v t vs ts Q r2 (q1.ext r1 x2) q2 (h2.imp fun t G' ρ' H' x' _ q v rv => q v (rv.back (x1.trans x2) x'))
theorem s_mtF {f : T → List W → GH → R T} {ma : M (List W)} (pa : PlainAttrs n) (slot : Slot n name id) (hty : typeOf (.builtin id) = pure (.type "method_descriptor")) (hm : MtR X id r) (hs : SaysMF X ca r f) (ht : TyOk X ca ty n) (ho : PE X o (tE X.K ca Wx mo)) (ha : PA X (e :: es) (tA X.K ca Wx ma))
    (hbase : attributeBase o name X.env (eval o X.env) = eval o X.env := by rfl)
    (hfew : ((backTo cpos (starEach (e :: es) X.env)).all (fun x => !x.1) && (backToKw cpos (keywordEach [] X.env)).all (fun x => x.1.isSome)
      && decide ((e :: es).length + ([] : List Keyword).length + (if ([] : List Keyword).isEmpty then 0 else 1) < 30)) = true := by rfl)
    (hline : (apos.endLine == cpos.line) = true := by rfl) (hst : starEach (e :: es) X.env = (false, eval e X.env) :: starEach es X.env := by rfl) (hplain : (backTo cpos (starEach es X.env)).any (·.1) = false := by rfl) :
    PE X (.Call (.Attribute o name apos) (e :: es) [] cpos) (tE X.K ca Wx (mMtF ty f mo ma)) := PE.weak (pe_bm pa slot hty hm ho ha hbase hfew hline hst hplain) fun _ _ _ h => mtF_in hs ht h
/-- xs.append(y) -/
def fApp (t : T) (ws : List W) (G : GH) : R T := match ws with
  | [w] => match lstAt t G with
    | some (n, us) => if us.length < 16777216 then .ok (.val .non) (G.set n (.lst (us ++ [w]))) else .bad
    | none => .bad
  | _ => .bad
theorem says_app : SaysMF X ca rAppend fApp := by
  intro Wx σ ρ G H H0 x t xs ts Q r qx qs h
  unfold fApp at h
  split at h
  · rename_i w
    obtain ⟨v, rfl, qv⟩ := relWs_one qs
    split at h
    · rename_i m us e
      split at h
      · rename_i hz
        obtain ⟨a, vs, rfl, hn, ha, qa⟩ := lstAt_of r qx e
        refine ⟨a, vs, v, rfl, rfl, ha, by rw [sizeLine_eq, qa.length]; exact hz, ?_⟩
        exact h ρ _ (.put hn) (r.put hn ha (relWs_app qa (.cons qv .nil))) _ .non
      · exact h.elim
    · exact h.elim
  · exact h.elim
/-- xs.pop() -/
def fPop (t : T) (ts : List T) (G : GH) : R T := match ts with
  | [] => match lstAt t G with
    | some (n, us) => match us[us.length - 1]? with
      | some w => .ok (.val w) (G.set n (.lst us.dropLast))
      | none => .bad
    | none => .bad
  | _ => .bad
theorem relWs_dropLast {K : PySem.W.Frag} {ρ : List Addr} {H : Hp} {vs : List V} {ws : List W} (q : RelWs K ca ρ H vs ws) : RelWs K ca ρ H vs.dropLast ws.dropLast :=
  relWs_of (by rw [List.length_dropLast, List.length_dropLast, q.length]) fun i v w e1 e2 => by
    rw [List.getElem?_dropLast] at e1 e2
    split at e1
    · split at e2
      · exact paired_get q i v w e1 e2
      · cases e2
    · cases e1
theorem says_pop : SaysM X ca rPop fPop := by
  intro Wx σ ρ G H H0 x t xs ts Q r qx qs h
  unfold fPop at h
  split at h
  · cases qs
    split at h
    · rename_i m us e
      split at h
      · rename_i w e2
        obtain ⟨a, vs, rfl, hn, ha, qa⟩ := lstAt_of r qx e
        obtain ⟨v, e3, qv⟩ := relWs_get qa e2
        refine ⟨a, vs, v, rfl, rfl, ha, by rw [qa.length]; exact e3, ?_⟩
        exact h ρ _ (.put hn) (r.put hn ha (relWs_dropLast qa)) _ (qv.mono (fun _ _ h => h) (Stay.put (ns_lst ha)))
      · exact h.elim
    · exact h.elim
  · exact h.elim
/-- xs.extend(ys) -/
def fExt (t : T) (ts : List T) (G : GH) : R T := match ts with
  | [u] => match lstAt t G, wrl u G with
    | some (n, us), some ws => if us.length + ws.length ≤ 16777216 then .ok (.val .non) (G.set n (.lst (us ++ ws))) else .bad
    | _, _ => .bad
  | _ => .bad
theorem says_ext : SaysM X ca rExtend fExt := by
  intro Wx σ ρ G H H0 x t xs ts Q r qx qs h
  unfold fExt at h
  split at h
  · obtain ⟨v, rfl, qv⟩ := relTs_one qs
    split at h
    · rename_i m us ws e e2
      split at h
      · rename_i hz
        obtain ⟨a, vs, rfl, hn, ha, qa⟩ := lstAt_of r qx e
        obtain ⟨b, vs2, rfl, hb, qb⟩ := wrl_of r qv e2
        refine ⟨a, b, vs, vs2, rfl, rfl, ha, hb, by rw [sizeLine_eq, qa.length, qb.length]; exact hz, ?_⟩
        exact h ρ _ (.put hn) (r.put hn ha (relWs_app qa qb)) _ .non
      · exact h.elim
    · exact h.elim
  · exact h.elim
def fClr (t : T) (ts : List T) (G : GH) : R T := match ts with
  | [] => match lstAt t G with
    | some (n, _) => .ok (.val .non) (G.set n (.lst []))
    | none => .bad
  | _ => .bad
theorem says_clr : SaysM X ca rClear fClr := by
  intro Wx σ ρ G H H0 x t xs ts Q r qx qs h
  unfold fClr at h
  split at h
  · cases qs
    split at h
    · rename_i m us e
      obtain ⟨a, vs, rfl, hn, ha, qa⟩ := lstAt_of r qx e
      exact ⟨a, vs, rfl, rfl, ha, h ρ _ (.put hn) (r.put hn ha .nil) _ .non⟩
    · exact h.elim
  · exact h.elim
def fRev (t : T) (ts : List T) (G : GH) : R T := match ts with
  | [] => match lstAt t G with
    | some (n, us) => .ok (.val .non) (G.set n (.lst us.reverse))
    | none => .bad
  | _ => .bad
theorem relWs_rev {K : PySem.W.Frag} {ρ : List Addr} {H : Hp} {vs : List V} {ws : List W} (q : RelWs K ca ρ H vs ws) : RelWs K ca ρ H vs.reverse ws.reverse :=
  relWs_of (by rw [List.length_reverse, List.length_reverse, q.length]) fun i v w e1 e2 => by
    have h1 : i < vs.length := by simpa using (List.getElem?_eq_some_iff.mp e1).1
    rw [List.getElem?_reverse h1] at e1
    rw [List.getElem?_reverse (by rw [← q.length]; exact h1), ← q.length] at e2
    exact paired_get q _ v w e1 e2
theorem says_rev : SaysM X ca rReverse fRev := by
  intro Wx σ ρ G H H0 x t xs ts Q r qx qs h
  unfold fRev at h
  split at h
  · cases qs
    split at h
    · rename_i m us e
      obtain ⟨a, vs, rfl, hn, ha, qa⟩ := lstAt_of r qx e
      exact ⟨a, vs, rfl, rfl, ha, h ρ _ (.put hn) (r.put hn ha (relWs_rev qa)) _ .non⟩
    · exact h.elim
  · exact h.elim
/-! xs[i] = e -/
def sPut (mo mi : M T) (m : M T) : MS := fun τ G => (mF m τ G).toS τ fun w G1 => (mo τ G1).toS τ fun t G2 => (mi τ G2).toS τ fun i G3 => match i, lstAt t G3 with
  | .val (.int k), some (n, us) => match ixN us.length k with
    | some j => .nx τ (G3.set n (.lst (us.set j w)))
    | none => .bad
  | _, _ => .bad
theorem relWs_set {K : PySem.W.Frag} {ρ : List Addr} {H : Hp} {v : V} {w : W} (qv : RelW K ca ρ H v w) : ∀ {vs : List V} {ws : List W} (j : Nat), RelWs K ca ρ H vs ws → RelWs K ca ρ H (vs.set j v) (ws.set j w)
  | _, _, _, .nil => .nil
  | _, _, 0, .cons _ t => .cons qv t
  | _, _, j + 1, .cons q t => .cons q (relWs_set qv j t)
theorem s_put {o i e : Expr} {mo mi m : M T} {spos tpos : Pos} (ho : PE X o (tE X.K ca Wx mo)) (hi : PE X i (tE X.K ca Wx mi)) (he : PE X e (tE X.K ca Wx m))
    (ha : ∀ v, assign (.Subscript o i tpos) X.env v = (do
      let ov ← holding [v] (eval o X.env)
      let iv ← holding [v, ov] (eval i X.env)
      standAt tpos
      holding [v, ov, iv] (setItem ov iv v)
      release [v, ov, iv] []) := by intro _; rfl)
    (hs : swapsWithSole [.Subscript o i tpos] e spos.line X.env = pure false := by rfl) (hw : swappedStores [.Subscript o i tpos] e X.env = pure none := by rfl)
    (h1 : (assignEach [.Subscript o i tpos] X.env).map (·.2) = [assign (.Subscript o i tpos) X.env] := by rfl) :
    PS X (.Assign [.Subscript o i tpos] e spos) (tS X.K ca Wx (sPut mo mi m)) := by
  refine PS.weak (ps_asg he (pg_sub ho hi set_list ha) hs hw h1) fun D σ H ⟨ρ, G, τ, r, s, h⟩ => ?_
  refine tE.seqFS r s h fun w G1 ρ1 H1 v x1 r1 s1 q1 h1 => ?_
  refine tE.seqS r1 s1 h1 fun t G2 ρ2 H2 vo x2 r2 s2 q2 h2 => ?_
  refine tE.seqS r2 s2 h2 fun u G3 ρ3 H3 vi x3 r3 s3 q3 h3 => ?_
  split at h3
  · rename_i k n us e
    split at h3
    · rename_i j ej
      cases q3
      obtain ⟨a, vs, rfl, hn, hl, qa⟩ := lstAt_of r3 (q2.ext r2 x3) e
      have qv := (q1.ext r1 x2).ext r2 x3
      refine ⟨a, vs, k, j, rfl, rfl, hl, by rw [qa.length]; exact ej, ?_⟩
      exact h3 ρ3 _ σ (.put hn) (r3.put hn hl (relWs_set qv j qa)) (s3.ext r3 (.put hn))
    · exact h3.elim
  · exact h3.elim
end
end Sy
set_option Elab.async false
set_option linter.all false
set_option maxRecDepth 100000
set_option maxHeartbeats 4000000
namespace Sy
open PySem PySem.Spec PyProof.Rows L2

section
variable {X : Cx} {ca : Nat → Addr} {Wx : WX} {pos : Pos}
/-! chains -/
def mChain (f g : T → T → GH → R T) (a b c : M T) : M T := fun τ G => (a τ G).bind fun x G1 => (b τ G1).bind fun y G2 => (f x y G2).bind fun z G3 => (asB z G3).bind fun k G4 => if k then (c τ G4).bind fun u G5 => g y u G5 else .ok (.val (.bl false)) G4
theorem chain_in {r r' : R2} {f g : T → T → GH → R T} (hf : Says2 X ca r f) (hg : Says2 X ca r' g) {ma mb mc : M T} {σ : SSt} {H : Hp} {Q : VK} (h : tE X.K ca Wx (mChain f g ma mb mc) σ H Q) : tChain r r' (tE X.K ca Wx ma) (tE X.K ca Wx mb) (tE X.K ca Wx mc) σ H Q := by
  obtain ⟨ρ, G, τ, r0, s0, h⟩ := h
  refine tE.seq r0 s0 h fun t1 G1 ρ1 H1 v1 x1 r1 s1 q1 h1 => ?_
  refine tE.seq r1 s1 h1 fun t2 G2 ρ2 H2 v2 x2 r2 s2 q2 h2 => ?_
  have x12 := x1.trans x2
  refine hf Wx σ ρ2 G2 H2 H v1 v2 t1 t2 _ r2 (q1.ext r1 x2) (q2.back x1 x2) ?_
  refine (Post.bindX h2).imp fun z G3 ρ3 H3 _ r3 ⟨x3, h3⟩ vz qz => ?_
  obtain ⟨k, e, h4⟩ := asB_of qz h3
  refine ⟨k, e, ?_⟩
  have x13 := x12.trans x3
  cases k with
  | false =>
    rw [if_neg Bool.false_ne_true] at h4 ⊢
    exact h4 ρ3 H3 .refl r3 _ (.bl false)
  | true =>
    rw [if_pos rfl] at h4 ⊢
    refine tE.seq r3 (s2.ext r2 x3) h4 fun t4 G4 ρ4 H4 v4 x4 r4 s4 q4 h5 => ?_
    exact hg Wx σ ρ4 G4 H4 H v2 v4 t2 t4 Q r4 (((q2.ext r2 x3).ext r3 x4).back x1 (x2.trans (x3.trans x4))) (q4.back x13 x4) (h5.imp fun t G' ρ' H' x' _ q v rv => q v (rv.back (x13.trans x4) x'))
theorem s_chain {op op' : CmpOp} {a b c : Expr} {r r' : R2} {f g : T → T → GH → R T} {ma mb mc : M T} (ho : OpR X (compareOp op) r) (ho' : OpR X (compareOp op') r') (hf : Says2 X ca r f) (hg : Says2 X ca r' g)
    (ha : PE X a (tE X.K ca Wx ma)) (hb : PE X b (tE X.K ca Wx mb)) (hc : PE X c (tE X.K ca Wx mc)) (hm : lastMarks [op, op'] [b, c] = false := by with_unfolding_all rfl) : PE X (.Compare a [op, op'] [b, c] pos) (tE X.K ca Wx (mChain f g ma mb mc)) :=
  PE.weak (pe_chain ho ho' ha hb hc hm) fun _ _ _ h => chain_in hf hg h
theorem s_testChain {op op' : CmpOp} {a b c : Expr} {r r' : R2} {f g : T → T → GH → R T} {ma mb mc : M T} (ho : OpR X (compareOp op) r) (ho' : OpR X (compareOp op') r') (hf : Says2 X ca r f) (hg : Says2 X ca r' g)
    (ha : PE X a (tE X.K ca Wx ma)) (hb : PE X b (tE X.K ca Wx mb)) (hc : PE X c (tE X.K ca Wx mc)) (hm : lastMarks [op, op'] [b, c] = false := by with_unfolding_all rfl) : PT X (.Compare a [op, op'] [b, c] pos) (tT X.K ca Wx (mB (mChain f g ma mb mc))) :=
  PT.weak (pt_chain ho ho' ha hb hc hm) fun _ _ _ h => chain_in hf hg (tTest_of h)
/-! truth -/
def truT (t : T) (G : GH) : R Bool := match t with
  | .tmp ws => .ok (!ws.isEmpty) G
  | .val w => match w with
    | .non => .ok false G
    | .bl b => .ok b G
    | .int i => .ok (i != 0) G
    | .str x => if x.length ≤ 16777216 then .ok ((x.length : Int) != 0) G else .bad
    | .tup ws => .ok (!ws.isEmpty) G
    | .frl ws => .ok (!ws.isEmpty) G
    | .loc n => match G[n]?.bind GO.rd with
      | some ws => .ok (!ws.isEmpty) G
      | none => .bad
    | _ => .bad
def mTru (m : M T) : M Bool := fun τ G => (m τ G).bind truT
theorem isEmpty_rel {K : PySem.W.Frag} {ρ : List Addr} {H : Hp} {vs : List V} {ws : List W} (q : RelWs K ca ρ H vs ws) : vs.isEmpty = ws.isEmpty := by
  cases q <;> rfl
theorem s_truth {e : Expr} {m : M T} (h : PE X e (tE X.K ca Wx m)) (he : ∀ whole, isTrue e X.env whole = (do let v ← whole; standAt e.pos; holding [v] (truthy v)) := by intro _; rfl) : PT X e (tT X.K ca Wx (mTru m)) := by
  refine PT.weak (pt_truth h he) fun σ H Q ⟨ρ, G, τ, r0, s0, h⟩ => ?_
  refine tE.seq r0 s0 h fun t G1 ρ1 H1 v x1 r1 s1 q1 h1 => ?_
  cases t with
  | tmp ws =>
    obtain ⟨p, vs, rfl, hn, h0, hp, qs⟩ := q1
    exact ⟨_, .inl ⟨vs, .of hp, rfl⟩, by rw [isEmpty_rel qs]; exact h1 ρ1 H1 .refl r1⟩
  | val w =>
    cases w with
    | non => cases q1; exact ⟨false, rfl, h1 ρ1 H1 .refl r1⟩
    | bl b => cases q1; exact ⟨b, rfl, h1 ρ1 H1 .refl r1⟩
    | int b => cases q1; exact ⟨_, rfl, h1 ρ1 H1 .refl r1⟩
    | str x =>
      cases q1
      have h1 : Post X.K ca Wx σ ρ1 H1 (fun b _ _ H' => Q b H') (if x.length ≤ 16777216 then .ok ((x.length : Int) != 0) G1 else .bad) := h1
      split at h1
      · rename_i z
        exact ⟨_, ⟨by rw [sizeLine_eq]; exact z, rfl⟩, h1 ρ1 H1 .refl r1⟩
      · exact h1.elim
    | tup ws =>
      obtain ⟨a, vs, rfl, hv, qs⟩ := relW_tup q1
      exact ⟨_, .inr (.inl ⟨vs, hv, rfl⟩), by rw [isEmpty_rel qs]; exact h1 ρ1 H1 .refl r1⟩
    | loc n =>
      have h1 : Post X.K ca Wx σ ρ1 H1 (fun b _ _ H' => Q b H') (match rdw G1 (.loc n) with | some ws => .ok (!ws.isEmpty) G1 | none => .bad) := h1
      cases e : rdw G1 (.loc n) with
      | none => rw [e] at h1; exact h1.elim
      | some ws =>
        rw [e] at h1
        obtain ⟨a, vs, rfl, hv, qs⟩ := rdw_of r1 q1 e
        exact ⟨_, .inl ⟨vs, hv, rfl⟩, by rw [isEmpty_rel qs]; exact h1 ρ1 H1 .refl r1⟩
    | frl ws =>
      obtain ⟨a, vs, rfl, hv, qs⟩ := relW_frl q1
      exact ⟨_, .inl ⟨vs, hv.sq, rfl⟩, by rw [isEmpty_rel qs]; exact h1 ρ1 H1 .refl r1⟩
    | ty n => exact h1.elim
    | cls n => exact h1.elim
    | exn n a => exact h1.elim
/-! is -/
def rIsA : R2 := fun x y H Q => (y = .non ∧ Q (.bl (decide (x = .non))) H) ∨ rIsB x y H Q
def rIsNotA : R2 := fun x y H Q => (y = .non ∧ Q (.bl (!decide (x = .non))) H) ∨ rNotB x y H Q
theorem op_isA : OpR X (compareOp .Is) rIsA := op_isN.or op_isBl
theorem op_isNotA : OpR X (compareOp .IsNot) rIsNotA := op_notN.or op_notBl
theorem non_iff {K : PySem.W.Frag} {ρ : List Addr} {H : Hp} {v : V} {w : W} (q : RelW K ca ρ H v w) : decide (v = .non) = isNonW w := by
  cases q <;> simp [isNonW]
theorem says_is : Says2 X ca rIsA fIs := by
  intro Wx σ ρ G H H0 x y s t Q r qx qy hp
  unfold fIs at hp
  split at hp
  · cases qy
    exact .inl ⟨rfl, by rw [non_iff qx]; exact hp ρ H .refl r _ (.bl _)⟩
  · cases qx; cases qy
    exact .inr ⟨_, _, rfl, rfl, hp ρ H .refl r _ (.bl _)⟩
  · exact hp.elim
theorem says_isNot : Says2 X ca rIsNotA fIsNot := by
  intro Wx σ ρ G H H0 x y s t Q r qx qy hp
  unfold fIsNot at hp
  split at hp
  · cases qy
    exact .inl ⟨rfl, by rw [non_iff qx]; exact hp ρ H .refl r _ (.bl _)⟩
  · cases qx; cases qy
    exact .inr ⟨_, _, rfl, rfl, hp ρ H .refl r _ (.bl _)⟩
  · exact hp.elim
/-! minus -/
def fNeg (t : T) (G : GH) : R T := match t with
  | .val (.int i) => .ok (.val (.int (-i))) G
  | _ => .bad
theorem s_neg {a : Expr} {ma : M T} (ha : PE X a (tE X.K ca Wx ma)) : PE X (.UnaryOp .USub a pos) (tE X.K ca Wx (mUn fNeg ma)) := by
  refine PE.weak (pe_un un_neg ha) fun σ H Q ⟨ρ, G, τ, r0, s0, h⟩ => ?_
  refine tE.seq r0 s0 h fun t G1 ρ1 H1 v x1 r1 s1 q1 h1 => ?_
  unfold fNeg at h1
  split at h1
  · cases q1
    exact ⟨_, rfl, h1 ρ1 H1 .refl r1 _ (.int _)⟩
  · exact h1.elim
/-! += -/
def rAugA : R2 := fun x y H Q => rI0 (fun i j => .int (i + j)) x y H Q ∨ (∃ i j, x = .str i ∧ y = .str j ∧ i.length + j.length ≤ sizeLine ∧ Q (.str (i ++ j)) H) ∨ rExt2 x y H Q
theorem aug_add : PIp X .Add rAugA := by
  intro pins s σ H x y v u Q I r1 r2 h
  exact (iop_add.or (iop_add_str.or iop_ext)) pins s σ H x y v u Q I r1 r2 h
theorem aug_I {op : Operator} {r : R2} (h : OpR X (inplaceOp op) r) : PIp X op r := fun pins s σ H x y v u Q I r1 r2 q => h pins s σ H x y v u Q I r1 r2 q
def fAugAdd (s t : T) (G : GH) : R T := match s with
  | .val (.int i) => match t with
    | .val (.int j) => .ok (.val (.int (i + j))) G
    | _ => .bad
  | .val (.str x) => match t with
    | .val (.str y) => if x.length + y.length ≤ 16777216 then .ok (.val (.str (x ++ y))) G else .bad
    | _ => .bad
  | s => match lstAt s G, wrl t G with
    | some (n, us), some ws => if us.length + ws.length ≤ 16777216 then .ok (.val (.loc n)) (G.set n (.lst (us ++ ws))) else .bad
    | _, _ => .bad
theorem says_augAdd : Says2 X ca rAugA fAugAdd := by
  intro Wx σ ρ G H H0 x y s t Q r qx qy hp
  unfold fAugAdd at hp
  split at hp
  · split at hp
    · cases qx; cases qy
      exact .inl ⟨_, _, rfl, rfl, hp ρ H .refl r _ (.int _)⟩
    · exact hp.elim
  · split at hp
    · split at hp
      · rename_i z
        cases qx; cases qy
        exact .inr (.inl ⟨_, _, rfl, rfl, by rw [sizeLine_eq]; exact z, hp ρ H .refl r _ (.str _)⟩)
      · exact hp.elim
    · exact hp.elim
  · split at hp
    · rename_i n us ws e1 e2
      split at hp
      · rename_i z
        obtain ⟨a, vs, rfl, hn, ha, qa⟩ := lstAt_of r qx e1
        obtain ⟨b, vs2, rfl, hb, qb⟩ := wrl_of r qy e2
        exact .inr (.inr ⟨a, b, vs, vs2, rfl, rfl, ha, hb, by rw [sizeLine_eq, qa.length, qb.length]; exact z, hp ρ _ (.put hn) (r.put hn ha (relWs_app qa qb)) _ (.loc hn)⟩)
      · exact hp.elim
    · exact hp.elim
/-! slices -/
def tO (K : PySem.W.Frag) (ca : Nat → Addr) (Wx : WX) (m : M (Option Int)) : TO := fun σ H Q => ∃ ρ G τ, Rep K ca ρ G H ∧ RelS K ca ρ H σ τ ∧ Post K ca Wx σ ρ H (fun o _ _ H' => Q o H') (m τ G)
def mNoP : M (Option Int) := fun _ G => .ok none G
def mP (m : M T) : M (Option Int) := fun τ G => (m τ G).bind fun t G1 => match t with
  | .val (.int i) => .ok (some i) G1
  | _ => .bad
theorem PO.weak {X : Cx} {e : Option Expr} {t t' : TO} (h : PO X e t) (f : ∀ σ H Q, t' σ H Q → t σ H Q) : PO X e t' := ⟨fun pins s σ H Q I q => h.run pins s σ H Q I (f σ H Q q)⟩
theorem o_none : PO X none (tO X.K ca Wx mNoP) := PO.weak po_none fun σ H Q ⟨ρ, G, τ, r, s, h⟩ => h ρ H .refl r
theorem o_some {e : Expr} {m : M T} (h : PE X e (tE X.K ca Wx m)) : PO X (some e) (tO X.K ca Wx (mP m)) := PO.weak (po_some h) fun σ H Q ⟨ρ, G, τ, r, s, h⟩ => by
  refine tE.seq r s h fun t G1 ρ1 H1 v x1 r1 s1 q1 h1 => ?_
  split at h1
  · cases q1
    exact ⟨_, rfl, h1 ρ1 H1 .refl r1⟩
  · exact h1.elim
def cutW (xs : List W) (lo hi : Option Int) : List W := (xs.drop (HT.sIx xs.length 0 lo)).take (HT.sIx xs.length xs.length hi - HT.sIx xs.length 0 lo)
def fSl (t : T) (lo hi : Option Int) (G : GH) : R T := match t with
  | .val (.str z) => if z.length ≤ 16777216 then .ok (.val (.str (cutS z lo hi))) G else .bad
  | .val (.tup ws) => .ok (.val (.tup (cutW ws lo hi))) G
  | t => match rdl t G with
    | some ws => .ok (.tmp (cutW ws lo hi)) G
    | none => .bad
def mSl (m : M T) (l u : M (Option Int)) : M T := fun τ G => (m τ G).bind fun t G1 => (l τ G1).bind fun lo G2 => (u τ G2).bind fun hi G3 => fSl t lo hi G3
theorem relWs_cut {K : PySem.W.Frag} {ρ : List Addr} {H : Hp} {vs : List V} {ws : List W} (q : RelWs K ca ρ H vs ws) (lo hi : Option Int) : RelWs K ca ρ H (cutV vs lo hi) (cutW ws lo hi) := by
  have hl := q.length
  unfold cutV cutW
  rw [hl]
  refine relWs_of (by simp [hl]) fun i v w e1 e2 => ?_
  rw [List.getElem?_take] at e1 e2
  split at e1
  · rw [if_pos (by assumption)] at e2
    rw [List.getElem?_drop] at e1 e2
    exact paired_get q _ v w e1 e2
  · cases e1
theorem s_sl {e : Expr} {lo hi : Option Expr} {p2 : Pos} {m : M T} {l u : M (Option Int)} (he : PE X e (tE X.K ca Wx m)) (hl : PO X lo (tO X.K ca Wx l)) (hu : PO X hi (tO X.K ca Wx u)) : PE X (.Subscript e (.Slice lo hi none p2) pos) (tE X.K ca Wx (mSl m l u)) := by
  refine PE.weak (pe_slice (sl_list.or (sl_tupA.or sl_str)) he hl hu) fun σ H Q ⟨ρ, G, τ, r, s, h⟩ => ?_
  refine tE.seq r s h fun t G1 ρ1 H1 v x1 r1 s1 q1 h1 => ?_
  refine ⟨ρ1, G1, τ, r1, s1, (Post.bindX h1).imp fun lo G2 ρ2 H2 _ r2 ⟨x2, h2⟩ => ?_⟩
  have s2 := s1.ext r1 x2
  refine ⟨ρ2, G2, τ, r2, s2, (Post.bindX h2).imp fun hi G3 ρ3 H3 _ r3 ⟨x3, h3⟩ => ?_⟩
  have q3 := (q1.ext r1 x2).ext r2 x3
  unfold fSl at h3
  split at h3
  · cases q3
    split at h3
    · rename_i z
      exact .inr (.inr ⟨_, rfl, by rw [sizeLine_eq]; exact z, h3 ρ3 H3 .refl r3 _ (.str _)⟩)
    · exact h3.elim
  · have q3' := q3
    obtain ⟨a, vs, rfl, hv, qs⟩ := relW_tup q3
    refine .inr (.inl ⟨a, vs, rfl, hv, fun hw => ?_, fun _ p hp => h3 ρ3 _ (.laid hp) (r3.laid hp) _ (RelW.tup' (.of upd_same) (relWs_ext (relWs_cut qs lo hi) r3 (.laid hp)))⟩)
    rw [qs.length] at hw
    have e : ∀ ws : List W, HT.sIx ws.length 0 lo = 0 ∧ HT.sIx ws.length ws.length hi = ws.length → cutW ws lo hi = ws := fun ws hw => by
      unfold cutW
      rw [hw.1, hw.2, List.drop_zero, Nat.sub_zero, List.take_length]
    rw [e _ hw] at h3
    exact h3 ρ3 H3 .refl r3 _ q3'
  · cases e : rdl t G3 with
    | none => rw [e] at h3; exact h3.elim
    | some ws =>
      rw [e] at h3
      obtain ⟨a, vs, rfl, hv, qs⟩ := rdl_of r3 q3 e
      refine .inl ⟨a, vs, rfl, hv, fun p hp => h3 ρ3 _ (.laid hp) (r3.laid hp) _ ?_⟩
      exact (fresh_tmp r3 hp (relWs_cut qs lo hi)).back (x1.trans (x2.trans x3)) (.laid hp)
/-! constants of the module -/
structure KonW (K : PySem.W.Frag) (mg : Str → Option Value) (ca : Nat → Addr) (x : Str) (w : W) : Prop where
  ex : ∃ (u : Value) (v : V), mg x = some u ∧ RelV v u ∧ ∀ ρ H, RelW K ca ρ H v w
theorem s_glob {x : Str} {w : W} (hg : Gl X x) (k : KonW X.K X.mg ca x w) (hd : (x == ("__debug__" : Str)) = false := by decide) : PE X (.Name x pos) (tE X.K ca Wx (mC w)) := by
  obtain ⟨u, v, hm, rv, hw⟩ := k.ex
  exact s_const (pe_glob hg hm rv hd) hw
theorem hu_five {k : Nat} {A : Around} (hr : Room k A) : A.units + 65 < cLine := by have := hr.un; omega
end
/-! defs with defaults -/
section
variable {P : Program} {w : World} {K : PySem.W.Frag} {mg : Str → Option Value} {base : Heap} {ca : Nat → Addr}
theorem def_okD {x qual : Str} {params : Arguments} {body : List Stmt} {scope : Scope} {dvs : List V} {kws : List (Str × V)} {f : Addr} {fd : FuncData} {N ps : List Str} {k : Nat} {mb : MS} (F : FunD K x qual params body scope dvs kws f fd) (S : FnScope N ps scope)
    (hb : ∀ (cdv : Value) (A : Around) (outer : List Env) (s : Shared) (H : Hp) (E : XK), Room k (A.deeper (envOfC qual scope s.heap.objs.size f cdv)) →
      PSs (cxOf (L2N.CX P w) P w K mg base N qual scope f cdv A outer s H E) body (tS K ca (fun c d _ H => E c d H) mb)) :
    FnOk P w K mg base (L2N.CX P w) (k + 1) f fd ps (spM K ca ps.length (mDef N.length mb)) := by
  refine F.ok S (fun vs H Q E h => h.1) fun cdv A outer s H vs Q E hr h => ?_
  obtain ⟨hl, ρ, G, ws, r, q, h⟩ := h
  refine ⟨_, hb cdv A outer s H E hr, ρ, G, _, r, relS_start q, ?_⟩
  unfold mDef at h
  cases e : mb (ws.map some ++ List.replicate (N.length - ws.length) none) G with
  | nx τ G' => rw [e] at h; exact fun ρ' H' σ' x r' s' => h ρ' H' x r' .non .non
  | rt w G' => rw [e] at h; exact fun ρ' H' v x r' q' => h ρ' H' x r' v q'
  | ex c fs τ G' => rw [e] at h; exact fun ρ' H' d σ' x r' s' ef => h ρ' H' d x r' ef
  | bk τ G' => rw [e] at h; exact h.elim
  | ct τ G' => rw [e] at h; exact h.elim
  | bad => rw [e] at h; exact h.elim
end
/-! names of the built-ins -/
theorem bt_len : bootBuiltins "len" = some (.builtin "len") := by decide +kernel
theorem bt_all : bootBuiltins "all" = some (.builtin "all") := by decide +kernel
theorem bt_any : bootBuiltins "any" = some (.builtin "any") := by decide +kernel
theorem bt_sum : bootBuiltins "sum" = some (.builtin "sum") := by decide +kernel
theorem bt_divmod : bootBuiltins "divmod" = some (.builtin "divmod") := by decide +kernel
theorem bt_isinstance : bootBuiltins "isinstance" = some (.builtin "isinstance") := by decide +kernel
theorem bt_int : bootBuiltins "int" = some (.type "int") := by decide +kernel
theorem bt_bool : bootBuiltins "bool" = some (.type "bool") := by decide +kernel
theorem bt_str : bootBuiltins "str" = some (.type "str") := by decide +kernel
theorem bt_list : bootBuiltins "list" = some (.type "list") := by decide +kernel
theorem bt_tuple : bootBuiltins "tuple" = some (.type "tuple") := by decide +kernel
theorem bt_dict : bootBuiltins "dict" = some (.type "dict") := by decide +kernel
end Sy
set_option Elab.async false
set_option linter.all false
set_option maxRecDepth 100000
set_option maxHeartbeats 4000000
namespace Sy
open PySem PySem.Spec PyProof.Rows L2

/-! own exception classes: numbers c, their classes at ca c -/
inductive CK where
  | own (j : Nat) | ty (n : String)
deriving DecidableEq
def ckW : W → Option CK
  | .cls j => some (.own j)
  | .ty n => some (.ty n)
  | _ => none
def CK.val (ca : Nat → Addr) : CK → Value
  | .own j => .ref (ca j)
  | .ty n => .type n
abbrev ITab := List (Nat × CK × Bool)
abbrev XTab := List (Nat × Nat × Bool)
def isub (tab : ITab) (c : Nat) (k : CK) : Option Bool := (tab.find? fun e => decide (e.1 = c) && decide (e.2.1 = k)).map fun e => e.2.2
def xsub (tab : XTab) (c j : Nat) : Option Bool := (tab.find? fun e => decide (e.1 = c) && decide (e.2.1 = j)).map fun e => e.2.2
/-- a class that may be raised -/
structure ExW (K : PySem.W.Frag) (mg : Str → Option Value) (ca : Nat → Addr) (x : Str) (c : Nat) : Prop where
  gC : mg x = some (.ref (ca c))
  q : PySem.W.excIn K (ca c) He.veBase "ValueError.__new__" = true
  kC : PySem.W.keepIn K (.ref (ca c)) = true
  s : PySem.W.subIn K (.ref (ca c)) (.type "BaseException") = some true
  t : PySem.W.typeIn K (.ref (ca c)) = some (.type "type")
structure Exs (K : PySem.W.Frag) (ca : Nat → Addr) (it : ITab) (xt : XTab) : Prop where
  isi : ∀ e ∈ it, PySem.W.kitOne K (.ref (ca e.1)) (e.2.1.val ca) = some e.2.2 ∧ ExcC K (ca e.1)
  exm : ∀ e ∈ xt, PySem.W.exmOne K (.ref (ca e.1)) (.ref (ca e.2.1)) = some e.2.2
theorem isub_mem {tab : ITab} {c : Nat} {k : CK} {b : Bool} (h : isub tab c k = some b) : (c, k, b) ∈ tab := by
  unfold isub at h
  cases e : tab.find? fun e => decide (e.1 = c) && decide (e.2.1 = k) with
  | none => rw [e] at h; cases h
  | some x =>
    rw [e] at h
    cases h
    have h1 := List.mem_of_find?_eq_some e
    have h2 := List.find?_some e
    rw [Bool.and_eq_true] at h2
    have h3 := of_decide_eq_true h2.1
    have h4 := of_decide_eq_true h2.2
    obtain ⟨a, b, c⟩ := x
    dsimp only at h3 h4
    subst h3; subst h4
    exact h1
theorem xsub_mem {tab : XTab} {c k : Nat} {b : Bool} (h : xsub tab c k = some b) : (c, k, b) ∈ tab := by
  unfold xsub at h
  cases e : tab.find? fun e => decide (e.1 = c) && decide (e.2.1 = k) with
  | none => rw [e] at h; cases h
  | some x =>
    rw [e] at h
    cases h
    have h1 := List.mem_of_find?_eq_some e
    have h2 := List.find?_some e
    rw [Bool.and_eq_true] at h2
    have h3 := of_decide_eq_true h2.1
    have h4 := of_decide_eq_true h2.2
    obtain ⟨a, b, c⟩ := x
    dsimp only at h3 h4
    subst h3; subst h4
    exact h1

/-! raise -/
def sRaise (c : Nat) : MS := fun τ G => .ex c [] τ G
section
variable {X : Cx} {ca : Nat → Addr} {Wx : WX} {pos : Pos}
theorem s_raise {x m : Str} {j c : Nat} {p p2 p3 : Pos} (hc : X.calm = true) (tk : L2N.Takes X Wx) (E : ExW X.K X.mg ca x c) (hg : Gl X x) (hdb : (x == ("__debug__" : Str)) = false := by decide) :
    PS X (.Raise (some (.Call (.Name x p) [.Constant (.str m) j p2] [] p3)) none pos) (tS X.K ca Wx (sRaise c)) := by
  refine PS.weak (L2N.ps_raise hc tk (L2N.pmk_own PySem.F.excBase_ValueError E.q E.gC E.kC (raises_own E.s E.t) hg hdb)) fun D σ H ⟨ρ, G, τ, r, s, h⟩ => ?_
  exact h ρ H none σ .refl r s rfl
/-! isinstance of the error that a suite, or a def called there, holds -/
/-- the context holds the error at a, of the class c -/
def Has (X : Cx) (ca : Nat → Addr) (c : Nat) (a : Addr) : Prop := X.A.handled = some (.ref a) ∧ ∃ oe : Obj, (a, oe) ∈ X.pn ∧ Zc (.ref (ca c)) none oe ∧ ∃ vs : Array Value, oe.data = .fields vs ∧ vs[2]? = some .none
open Classical in
noncomputable def fIsE (it : ITab) (c : Nat) (a : Addr) (ts : List T) (G : GH) : R T := match ts with
  | [.val (.exn c' a'), .val k] => if c' = c ∧ a' = a then match (ckW k).bind (isub it c) with
      | some b => .ok (.val (.bl b)) G
      | none => .bad
    else .bad
  | _ => .bad
theorem ck_rel {K : PySem.W.Frag} {ρ : List Addr} {H : Hp} {w : W} {k : CK} {v : V} (h : ckW w = some k) (q : RelW K ca ρ H v w) : ∀ u, RelV v u → u = k.val ca := by
  cases w with
  | cls j => cases h; cases q; intro u r; exact r
  | ty n => cases h; cases q; intro u r; exact r
  | _ => cases h
theorem call_isX {c : Nat} {a : Addr} (C : ExcC X.K (ca c)) (hz : Has X ca c a) : CallR X (.builtin "isinstance") (rIsE X.K (ca c) a) := by
  intro pins s σ H xs us Q I r h
  obtain ⟨v, cv, b, rfl, hcv, e, q⟩ := h
  obtain ⟨_, oe, hm, hz, vs, hf, _⟩ := hz
  obtain ⟨u1, u2, rfl, r1, r2⟩ := vals2 r
  cases (show u1 = Value.ref a from r1)
  cases hcv _ r2
  have J : PySem.W.InstAt s.heap a oe (ca c) none := by
    have g := (I.pin (a, oe) (List.mem_append.mpr (.inl hm))).1
    obtain ⟨oc, od, oda, osl⟩ := oe
    obtain ⟨z1, z2⟩ := hz
    dsimp only at z1 z2 hf
    subst z1; subst z2; subst hf
    exact ⟨g, rfl, rfl, trivial⟩
  exact PySem.W.kia_one (PySem.W.handS_kitx_exc C.hg C.hk C.hs C.hd C.ha C.hn C.ht C.hm) I.kIn J e (fun z => nomatch z) fun tk => ⟨.bl b, H, I.kept (t' := tk) fun _ _ z => z, rfl, q⟩
theorem says_isE {it : ITab} {xt : XTab} {c : Nat} {a : Addr} (E : Exs X.K ca it xt) : SaysC X ca (fun xs H Q => ExcC X.K (ca c) ∧ rIsE X.K (ca c) a xs H Q) (fIsE it c a) := by
  intro Wx σ ρ G H H0 xs ts Q r q h
  unfold fIsE at h
  split at h
  · rename_i c' a' k
    split at h
    · rename_i z
      obtain ⟨rfl, rfl⟩ := z
      obtain ⟨v, u, rfl, qv, qu⟩ := relTs_two q
      cases qv
      cases e : ckW k with
      | none => rw [e] at h; exact h.elim
      | some ck =>
        rw [e] at h
        cases e2 : isub it c' ck with
        | none => rw [Option.bind_some, e2] at h; exact h.elim
        | some b =>
          rw [Option.bind_some, e2] at h
          obtain ⟨k1, k2⟩ := E.isi _ (isub_mem e2)
          exact ⟨k2, u, _, b, rfl, ck_rel e qu, k1, h ρ H .refl r _ (.bl _)⟩
    · exact h.elim
  · exact h.elim
theorem call_isX' {c : Nat} {a : Addr} (hz : Has X ca c a) : CallR X (.builtin "isinstance") (fun xs H Q => ExcC X.K (ca c) ∧ rIsE X.K (ca c) a xs H Q) :=
  fun pins s σ H xs us Q I r h => call_isX h.1 hz pins s σ H xs us Q I r h.2

/-! try .. except x as n -/
/-- an outcome that is the same whatever address the error has -/
noncomputable def pick (f : Addr → RS) : RS := open Classical in if h : ∃ r, ∀ a, f a = r then choose h else .bad
theorem pick_eq {f : Addr → RS} {r : RS} (h : ∀ a, f a = r) : pick f = r := by
  unfold pick
  have e : ∃ r, ∀ a, f a = r := ⟨r, h⟩
  rw [dif_pos e]
  exact (Classical.choose_spec e 0).symm.trans (h 0)
theorem pick_at {f : Addr → RS} (h : pick f ≠ .bad) (a : Addr) : f a = pick f := by
  unfold pick at h ⊢
  split at h
  · rename_i e
    rw [dif_pos e]
    exact Classical.choose_spec e a
  · exact absurd rfl h
/-- the name is gone behind the suite -/
def RS.unS (i : Nat) : RS → RS
  | .nx τ G => .nx (τ.set i none) G
  | .bk τ G => .bk (τ.set i none) G
  | .ct τ G => .ct (τ.set i none) G
  | .rt w G => .rt w G
  | _ => .bad
noncomputable def sTry (xt : XTab) (C i : Nat) (mb : MS) (ms : Nat → Addr → MS) : MS := fun τ G => match mb τ G with
  | .ex c fs τ1 G1 => match fs with
    | [] => match xsub xt c C with
      | some true => pick fun a => (ms c a (τ1.set i (some (.exn c a))) G1).unS i
      | some false => .ex c [] τ1 G1
      | none => .bad
    | _ :: _ => .bad
  | r => r
theorem exF_nil {K : PySem.W.Frag} {ρ : List Addr} {H : Hp} {d : Option Addr} (h : ExF K ca ρ H d []) : d = none := by
  cases d with
  | none => rfl
  | some d => exact absurd rfl h.1
def unE (i : Nat) (D : Ends) : Ends := { nx := fun σ' H' => D.nx (σ'.set i none) H', rt := D.rt, bk := fun σ' H' => D.bk (σ'.set i none) H', ct := fun σ' H' => D.ct (σ'.set i none) H' }
theorem unS_post {K : PySem.W.Frag} {i : Nat} {D : Ends} {ρ : List Addr} {H : Hp} {r : RS} (h : PostS K ca Wx D ρ H (r.unS i)) : PostS K ca wF (unE i D) ρ H r := by
  cases r with
  | nx τ G => exact fun ρ' H' σ' x r s => h ρ' H' _ x r (s.unset i)
  | bk τ G => exact fun ρ' H' σ' x r s => h ρ' H' _ x r (s.unset i)
  | ct τ G => exact fun ρ' H' σ' x r s => h ρ' H' _ x r (s.unset i)
  | rt w G => exact h
  | ex c fs τ G => exact h.elim
  | bad => exact h.elim
theorem PSs.any {X : Cx} {ss : List Stmt} {ι : Type} {P : ι → Prop} {t : ι → TS} (h : ∀ c, P c → PSs X ss (t c)) : PSs X ss (fun D σ H => ∃ c, P c ∧ t c D σ H) :=
  ⟨fun pins s σ H D I ⟨c, hc, q⟩ => (h c hc).run pins s σ H D I q⟩
theorem s_try {x n : Str} {C i : Nat} {it : ITab} {xt : XTab} {body suite : List Stmt} {b₀ : Stmt} {np pos' : Pos} {mb : MS} {ms : Nat → Addr → MS} (E : Exs X.K ca it xt) (hs : X.stack = X.env :: X.outer) (hf : X.env.frame = some X.env.locals) (hN : X.N.Nodup) (hi : X.N[i]? = some n)
    (hln : X.env.kindOf n = some .local) (hc : Names X x (.ref (ca C))) (tk : L2N.Takes X Wx)
    (hb : ∀ (W : WX) (pn : List (Addr × Obj)) (xe : Value → Shared → Prop), L2N.Takes (X.tr pn xe) W → PassesOwn (model X.prog X.w) X.A X.env xe → PSs (X.tr pn xe) body (tS X.K ca W mb))
    (hsu : ∀ (c : Nat) (a : Addr) (oe : Obj) (pn : List (Addr × Obj)), Has (X.suite a ((a, oe) :: pn)) ca c a → PSs (X.suite a ((a, oe) :: pn)) (b₀ :: suite) (tS X.K ca wF (ms c a))) :
    PS X (.Try body [.ExceptHandler (some (.Name x np)) (some n) (b₀ :: suite) pos'] [] [] pos) (tS X.K ca Wx (sTry xt C i mb ms)) := by
  refine PS.weak (L2N.ps_try_as (ts := fun a cls d D σ H => ∃ c, (cls = .ref (ca c) ∧ d = none) ∧ tS X.K ca wF (ms c a) D σ H) (tb := fun W => tS X.K ca W mb) hs hf hN hi hln hc tk hb (fun a oe cls d pn hz hfd => ?_)) fun D σ H ⟨ρ, G, τ, r, s, h⟩ => ?_
  · refine PSs.any fun c hcd => ?_
    obtain ⟨rfl, rfl⟩ := hcd
    obtain ⟨vs, hf⟩ := hfd
    exact hsu c a oe pn ⟨rfl, oe, List.mem_cons_self, hz.zc, vs, hf, hz.2.2 vs hf⟩
  · refine ⟨ρ, G, τ, r, s, ?_⟩
    unfold sTry at h
    cases e : mb τ G with
    | nx τ1 G1 => rw [e] at h; exact h
    | rt w G1 => rw [e] at h; exact h
    | bk τ1 G1 => rw [e] at h; exact h
    | ct τ1 G1 => rw [e] at h; exact h
    | bad => rw [e] at h; exact h
    | ex c fs τ1 G1 =>
      rw [e] at h
      cases fs with
      | cons f fs => exact h.elim
      | nil =>
        dsimp only at h
        cases e2 : xsub xt c C with
        | none => rw [e2] at h; exact h.elim
        | some b =>
          rw [e2] at h
          have k := E.exm _ (xsub_mem e2)
          intro ρ1 H1 d σ1 x1 r1 s1 ef
          have hd := exF_nil ef
          subst hd
          cases b with
          | false => exact ⟨false, k, fun z => Bool.noConfusion z, fun _ => h ρ1 H1 none σ1 x1 r1 s1 ef⟩
          | true =>
            refine ⟨true, k, fun _ a ha => ⟨c, ⟨rfl, rfl⟩, ρ1, G1, τ1.set i (some (.exn c a)), r1, s1.set i (.exn c a), ?_⟩, fun z => Bool.noConfusion z⟩
            have h2 : PostS X.K ca Wx D ρ H (pick fun a => (ms c a (τ1.set i (some (.exn c a))) G1).unS i) := h
            have nb : (pick fun a => (ms c a (τ1.set i (some (.exn c a))) G1).unS i) ≠ .bad := fun z => by rw [z] at h2; exact h2
            rw [← pick_at nb a] at h2
            exact PostS.later (unS_post h2) x1

/-! {} -/
theorem Rep.takeO {K : PySem.W.Frag} {ρ : List Addr} {G : GH} {H : Hp} (r : Rep K ca ρ G H) {p : Addr} {o : GO} (hn : p ∉ ρ) (ho : ObjR K ca ρ H p o) : Rep K ca (ρ ++ [p]) (G ++ [o]) H := by
  have pre : ∀ (n : Nat) a, ρ[n]? = some a → (ρ ++ [p])[n]? = some a := fun n a e => by
    rw [List.getElem?_append_left (List.getElem?_eq_some_iff.mp e).1]; exact e
  refine ⟨by simp [r.len], ?_, fun n a u e1 e2 => ?_⟩
  · rw [List.nodup_append]
    refine ⟨r.nd, by simp, fun a ha b hb e => ?_⟩
    have : b = p := by simpa using hb
    exact hn (by rw [← this, ← e]; exact ha)
  · by_cases hl : n < ρ.length
    · rw [List.getElem?_append_left hl] at e1
      rw [List.getElem?_append_left (by rw [← r.len]; exact hl)] at e2
      exact objR_mono (r.obj n a u e1 e2) pre Stay.refl rfl
    · have hl2 : ρ.length ≤ n := Nat.le_of_not_lt hl
      rw [List.getElem?_append_right hl2] at e1
      rw [List.getElem?_append_right (by rw [← r.len]; exact hl2), ← r.len] at e2
      cases h0 : n - ρ.length with
      | zero =>
        rw [h0] at e1 e2
        simp at e1 e2
        subst e1; subst e2
        exact objR_mono ho pre Stay.refl rfl
      | succ k =>
        rw [h0] at e1
        simp at e1
def mDict0 : M T := fun _ G => .ok (.val (.loc G.length)) (G ++ [.dK []])
theorem s_dict0 : PE X (.Dict [] [] pos) (tE X.K ca Wx mDict0) := by
  refine PE.weak pe_dnewK fun σ H Q ⟨ρ, G, τ, r, s, h⟩ => ?_
  intro p hp
  have r1 : Rep X.K ca ρ G (upd H p (.dK [])) := r.laid hp
  refine h (ρ ++ [p]) (upd H p (.dK [])) ((Ext.laid hp).take hp) (r1.takeO (r.fresh hp) ⟨[], upd_same, .nil⟩) (.ref p) (.loc ?_)
  rw [← r.len]
  simp
/-! a class of the module as a value -/
theorem konW_cls {K : PySem.W.Frag} {mg : Str → Option Value} {x : Str} {c : Nat} (h : mg x = some (.ref (ca c))) : KonW K mg ca x (.cls c) := ⟨_, .ref (ca c), h, rfl, fun _ _ => .cls c⟩
/-! more built-ins -/
def fMin (ts : List T) (G : GH) : R T := match ts with
  | [.val (.int i), .val (.int j)] => .ok (.val (.int (if j < i then j else i))) G
  | _ => .bad
def fMax (ts : List T) (G : GH) : R T := match ts with
  | [.val (.int i), .val (.int j)] => .ok (.val (.int (if j > i then j else i))) G
  | _ => .bad
def fAbs (ts : List T) (G : GH) : R T := match ts with
  | [.val (.int i)] => .ok (.val (.int (if i < 0 then -i else i))) G
  | _ => .bad
def fStr (ts : List T) (G : GH) : R T := match ts with
  | [.val (.int i)] => if i.natAbs.log2 < 1920 then .ok (.val (.str (toString i))) G else .bad
  | _ => .bad
theorem says_min : SaysC X ca (fun xs H Q => ∃ i j, xs = [.int i, .int j] ∧ Q (.int (if j < i then j else i)) H) fMin := by
  intro Wx σ ρ G H H0 xs ts Q r q h
  unfold fMin at h
  split at h
  · obtain ⟨v, u, rfl, qv, qu⟩ := relTs_two q
    cases qv; cases qu
    exact ⟨_, _, rfl, h ρ H .refl r _ (.int _)⟩
  · exact h.elim
theorem says_max : SaysC X ca (fun xs H Q => ∃ i j, xs = [.int i, .int j] ∧ Q (.int (if j > i then j else i)) H) fMax := by
  intro Wx σ ρ G H H0 xs ts Q r q h
  unfold fMax at h
  split at h
  · obtain ⟨v, u, rfl, qv, qu⟩ := relTs_two q
    cases qv; cases qu
    exact ⟨_, _, rfl, h ρ H .refl r _ (.int _)⟩
  · exact h.elim
theorem says_abs : SaysC X ca (fun xs H Q => ∃ i, xs = [.int i] ∧ Q (.int (if i < 0 then -i else i)) H) fAbs := by
  intro Wx σ ρ G H H0 xs ts Q r q h
  unfold fAbs at h
  split at h
  · obtain ⟨v, rfl, qv⟩ := relTs_one q
    cases qv
    exact ⟨_, rfl, h ρ H .refl r _ (.int _)⟩
  · exact h.elim
theorem says_strI : SaysC X ca (fun xs H Q => ∃ i, xs = [.int i] ∧ i.natAbs.log2 < 1920 ∧ Q (.str (toString i)) H) fStr := by
  intro Wx σ ρ G H H0 xs ts Q r q h
  unfold fStr at h
  split at h
  · obtain ⟨v, rfl, qv⟩ := relTs_one q
    cases qv
    split at h
    · rename_i z
      exact ⟨_, rfl, z, h ρ H .refl r _ (.str _)⟩
    · exact h.elim
  · exact h.elim
theorem bt_min : bootBuiltins "min" = some (.builtin "min") := by decide +kernel
theorem bt_max : bootBuiltins "max" = some (.builtin "max") := by decide +kernel
theorem bt_abs : bootBuiltins "abs" = some (.builtin "abs") := by decide +kernel
theorem bt_ValueError : bootBuiltins "ValueError" = some (.type "ValueError") := by decide +kernel
end
end Sy
set_option Elab.async false
set_option linter.all false
set_option maxRecDepth 100000
set_option maxHeartbeats 4000000
namespace Sy
open PySem PySem.Spec PyProof.Rows L2
theorem takesN {X : Cx} : L2N.Takes X wF := fun u s' h => by
  obtain ⟨_, _, _, _, _, _, _, _, _, _, _, _, _, _, _, _, w⟩ := h
  exact w.elim
/-! defs that are called where an error is handled, and are handed it -/
structure FnX (P : Program) (w : World) (K : PySem.W.Frag) (mg : Str → Option Value) (base : Heap) (ca : Nat → Addr) (k : Nat) (f : Addr) (fd : FuncData) (ps : List Str) (sp : Nat → Addr → Sp) : Prop where
  ln : ∀ c a vs H Q E, sp c a vs H Q E → vs.length = ps.length
  go : ∀ (A : Around) (out : List Env) (s : Shared) (H : Hp) (us : List Value) (vs : List V) (Q : VK) (E : XK) (p : Addr × Obj) (c : Nat), L2H.RoomH k A → L2H.Hot1 A p → L2H.PinOk out H s p → Zc (.ref (ca c)) none p.2 →
    Env0 P w K mg base A out s H → BindsTo s fd ⟨us, []⟩ (ps.zip us) → Vals vs us → sp c p.1 vs H Q E → codeAny (model P w) A (.call (.ref f) ⟨us, []⟩) (CR (L2N.CX P w) out P w H s Q E) s
section
variable {P : Program} {w : World} {K : PySem.W.Frag} {mg : Str → Option Value} {base : Heap} {ca : Nat → Addr}
theorem fnX_of {x qual : Str} {params : Arguments} {body : List Stmt} {scope : Scope} {f : Addr} {fd : FuncData} {N ps : List Str} {k : Nat} {sp : Nat → Addr → Sp} (F : FunD K x qual params body scope [] [] f fd) (S : FnScope N ps scope)
    (ln : ∀ c a vs H Q E, sp c a vs H Q E → vs.length = ps.length)
    (hb : ∀ (cdv : Value) (A : Around) (out : List Env) (s : Shared) (H : Hp) (vs : List V) (Q : VK) (E : XK) (p : Addr × Obj) (c : Nat), L2H.Hot1 A p → Zc (.ref (ca c)) none p.2 → L2H.RoomH k (A.deeper (envOfC qual scope s.heap.objs.size f cdv)) → sp c p.1 vs H Q E →
      ∃ t, PSs (L2H.cxH (L2N.CX P w) P w K mg base N qual scope f cdv A out s H E p) body t ∧ t { nx := fun _ H2 => Q .non H2, rt := Q } (L2.start N vs) H) :
    FnX P w K mg base ca (k + 1) f fd ps sp := by
  obtain ⟨oc, od, dV, kV, doc, pm, an, cdv, ct, osl, rfl, lk, cd, _, _⟩ := F.ex
  refine ⟨ln, fun A out s H us vs Q E p c rm hot pin zc env bd rel sat => ?_⟩
  have hlen := ln _ _ _ _ _ _ sat
  have stay : ∀ b o, base.get? b = some o → s.heap.get? b = some o := fun b o z => (env.bs b o z).1
  have inK : K.In s.heap := env.mod.kin.keeps stay
  have nolim : s.heap.NoLimit := env.mod.nolimit.keeps stay
  have kinds : ∀ y ∈ ps.zip us, scope.names.lookup y.1 = some .local ∨ (scope.names.lookup y.1 = some .cell ∧ ((cellsFrom (s.heap.objs.size + 1) scope.names []).lookup y.1).isSome = true) := by
    rintro ⟨n, u⟩ hy
    rcases S.par n (List.of_mem_zip hy).1 with z | z
    · exact .inl z
    · exact .inr ⟨z, PySem.W.cellsFrom_some _ _ _ (.inl z)⟩
  refine codeAny_call_function rm.depth (inK _ _ lk) rfl S.co S.gen rfl (PySem.W.codeRec_of inK cd) (bd _ _ _ _ ?_)
  refine wpAny_newFunctionEnv_cells S.kind kinds fun env2 he s1 ic => ?_
  subst he
  refine ⟨nolim.keeps ic.toInCall.keep, codeAny_func ?_⟩
  obtain ⟨t, ht, hq⟩ := hb cdv A out s H vs Q E p c hot zc (rm.deeper _) sat
  have inv : Inv (L2H.cxH (L2N.CX P w) P w K mg base N qual scope f cdv A out s H E p) [] (L2.start N vs) H s1 := L2H.inv_startH S pin env hlen rel ic
  refine wpAny_mono (ht.run [] s1 (L2.start N vs) H _ inv hq) (fun fl s2 z => ?_) fun _ _ z => z
  have done : ∀ {σ2 : SSt} {H2 : Hp} {v : V} {u : Value}, Inv (L2H.cxH (L2N.CX P w) P w K mg base N qual scope f cdv A out s H E p) [] σ2 H2 s2 → RelV v u → Q v H2 → CE out P w H s Q u s2 := by
    intro σ2 H2 v u J rv q
    exact ⟨v, H2, J.os, J.bare, J.base, J.hok, rv, q⟩
  cases fl with
  | next => obtain ⟨σ2, H2, J, q⟩ := z; exact done (v := V.non) (u := Value.none) J rfl q
  | ret u => obtain ⟨v, σ2, H2, J, rv, q⟩ := z; exact done J rv q
  | cont => obtain ⟨_, _, _, q⟩ := z; exact q.elim
  | brk => obtain ⟨_, _, _, q⟩ := z; exact q.elim
theorem has_hot {X : Cx} {p : Addr × Obj} {c : Nat} {A : Around} (h : L2H.Hot1 A p) (hA : X.A.handled = A.handled) (hp : p ∈ X.pn) (hz : Zc (.ref (ca c)) none p.2) : Has X ca c p.1 := by
  obtain ⟨h1, vs, h2, h3⟩ := h
  exact ⟨hA.trans h1, p.2, hp, hz, vs, h2, h3⟩
/-- a def, handed the error, that does what m does -/
theorem def_okX {x qual : Str} {params : Arguments} {body : List Stmt} {scope : Scope} {f : Addr} {fd : FuncData} {N ps : List Str} {k : Nat} {mb : Nat → Addr → MS} (F : FunD K x qual params body scope [] [] f fd) (S : FnScope N ps scope)
    (hb : ∀ (cdv : Value) (A : Around) (out : List Env) (s : Shared) (H : Hp) (E : XK) (p : Addr × Obj) (c : Nat), L2H.RoomH k (A.deeper (envOfC qual scope s.heap.objs.size f cdv)) → Has (L2H.cxH (L2N.CX P w) P w K mg base N qual scope f cdv A out s H E p) ca c p.1 →
      PSs (L2H.cxH (L2N.CX P w) P w K mg base N qual scope f cdv A out s H E p) body (tS K ca (fun c d _ H => E c d H) (mb c p.1))) :
    FnX P w K mg base ca (k + 1) f fd ps (fun c a => spM K ca ps.length (mDef N.length (mb c a))) := by
  refine fnX_of F S (fun c a vs H Q E h => h.1) fun cdv A out s H vs Q E p c hot zc hr h => ?_
  obtain ⟨hl, ρ, G, ws, r, q, h⟩ := h
  refine ⟨_, hb cdv A out s H E p c hr (has_hot hot rfl List.mem_cons_self zc), ρ, G, _, r, relS_start q, ?_⟩
  unfold mDef at h
  cases e : mb c p.1 (ws.map some ++ List.replicate (N.length - ws.length) none) G with
  | nx τ G' => rw [e] at h; exact fun ρ' H' σ' x r' s' => h ρ' H' x r' .non .non
  | rt w G' => rw [e] at h; exact fun ρ' H' v x r' q' => h ρ' H' x r' v q'
  | ex c fs τ G' => rw [e] at h; exact fun ρ' H' d σ' x r' s' ef => h ρ' H' d x r' ef
  | bk τ G' => rw [e] at h; exact h.elim
  | ct τ G' => rw [e] at h; exact h.elim
  | bad => rw [e] at h; exact h.elim
structure CallX (P : Program) (w : World) (K : PySem.W.Frag) (mg : Str → Option Value) (base : Heap) (ca : Nat → Addr) (k : Nat) (x : Str) (ps : List Str) (m : Nat → Addr → List W → GH → R W) : Prop where
  ex : ∃ (f : Addr) (fd : FuncData), mg x = some (.ref f) ∧ PySem.W.keepIn K (.ref f) = true ∧ Binds K fd ps [] ∧ FnX P w K mg base ca k f fd ps (fun c a => spM K ca ps.length (m c a))
theorem callX_mk {k : Nat} {x : Str} {ps : List Str} {m : Nat → Addr → List W → GH → R W} {f : Addr} {fd : FuncData} (hm : mg x = some (.ref f)) (kp : PySem.W.keepIn K (.ref f) = true) (b : Binds K fd ps []) (F : FnX P w K mg base ca k f fd ps (fun c a => spM K ca ps.length (m c a))) :
    CallX P w K mg base ca k x ps m := ⟨f, fd, hm, kp, b, F⟩
end
section
variable {X : Cx} {ca : Nat → Addr} {pos : Pos}
theorem run_X {pins : List (Addr × Obj)} {σ : SSt} {H : Hp} {s : Shared} {Q : VK} {us : List Value} {vs : List V} {k : Nat} {f : Addr} {fd : FuncData} {ps : List Str} {sp : Nat → Addr → Sp} {c : Nat} {a : Addr}
    (F : FnX X.prog X.w X.K X.mg X.base ca k f fd ps sp) (hr : L2H.RoomH k X.A) (hx : Has X ca c a) (hb : Binds X.K fd ps []) (inv : Inv X pins σ H s) (rel : Vals vs us) (h : sp c a vs H Q (WE wF σ)) :
    wpAny (model X.prog X.w) X.A (call (.ref f) us) (EP X pins σ Q) X.xe s := by
  obtain ⟨hh, oe, hm, hz, fs, hf, h2⟩ := hx
  have hlu : us.length = ps.length := rel.length.symm.trans (F.ln _ _ _ _ _ _ h)
  have bd := hb s us inv.kIn (by rw [List.append_nil]; exact hlu)
  rw [List.append_nil] at bd
  have pn := inv.pin (a, oe) (List.mem_append_left _ hm)
  have pok : L2H.PinOk X.stack H s (a, oe) := by
    refine ⟨pn.1, pn.2.1, fun z => ?_, pn.2.2.2.2⟩
    rcases List.mem_cons.mp (inv.stkSub a z) with z | z
    · exact pn.2.2.1 z
    · exact pn.2.2.2.1 z
  refine wpAny_call (codeAny_mono (F.go X.A X.stack s H us vs Q (WE wF σ) (a, oe) c hr ⟨hh, fs, hf, h2⟩ pok hz inv.env0 bd rel h) fun res s2 z => ?_)
  cases res with
  | error e => exact L2N.passAt (W := wF) takesN σ pins H s e s2 inv z
  | ok fl =>
    cases fl with
    | ret u => exact inv.after z
    | next => exact z.elim
    | brk => exact z.elim
    | cont => exact z.elim
theorem s_callX {x : Str} {p : Pos} {k : Nat} {ps : List Str} {m : Nat → Addr → List W → GH → R W} {e : Expr} {es : List Expr} {ma : M (List W)} {c : Nat} {a : Addr} (C : CallX X.prog X.w X.K X.mg X.base ca k x ps m) (hr : L2H.RoomH k X.A) (hx : Has X ca c a) (hg : Gl X x)
    (ha : PA X (e :: es) (tA X.K ca wF ma)) (hn : ∀ ws τ G G1, ma τ G = .ok ws G1 → (ws ++ []).length = ps.length) (hdb : (x == ("__debug__" : Str)) = false := by decide)
    (he : starEach (e :: es) X.env = (false, eval e X.env) :: starEach es X.env := by rfl) (hpl : (backTo pos (starEach es X.env)).any (·.1) = false := by rfl) :
    PE X (.Call (.Name x p) (e :: es) [] pos) (tE X.K ca wF (mCall (m c a) [] ma)) := by
  obtain ⟨f, fd, gm, kp, b, F⟩ := C.ex
  refine ⟨fun pins s σ H Q inv h => ?_⟩
  have h2 := call_in (X := X) (Wx := wF) (dvs := []) (dws := []) (n := ps.length) (m := m c a) (fun _ _ => .nil) hn h
  refine wpAny_Call_Name_kw (ld_glob inv hg gm ?_ hdb)
  refine PySem.W.callWith_K (h₀ := X.base) inv.ok.mod.kin kp (thn (ha.run pos pins s σ H _ inv h2) fun us s1 z => ?_) he hpl
  obtain ⟨vs, H1, inv1, rel, q⟩ := z
  rw [List.append_nil] at q
  exact ⟨inv1.kIn, run_X F hr hx b inv1 rel q⟩
end
theorem roomX {k j : Nat} {A : Around} (r : Room k A) (h : Option Value) (hj : j ≤ k) : L2H.RoomH j (A.mark h) := ⟨(r.mono hj).dp, (r.mono hj).un⟩
theorem hu_hot {k : Nat} {A : Around} (r : L2H.RoomH k A) : A.units + 65 < cLine := by have := r.un; omega
end Sy
set_option Elab.async false
set_option linter.all false
set_option maxRecDepth 100000
set_option maxHeartbeats 4000000
namespace Sy
open PySem PySem.Spec PyProof.Rows L2
section
variable {X : Cx} {ca : Nat → Addr} {Wx : WX} {pos : Pos}
/-! xs[::-1] -/
theorem relWs_back {K : PySem.W.Frag} {ρ : List Addr} {H : Hp} {vs : List V} {ws : List W} (q : RelWs K ca ρ H vs ws) : RelWs K ca ρ H vs.reverse ws.reverse := by
  have hl := q.length
  refine relWs_of (by simp [hl]) fun i v w e1 e2 => ?_
  have h1 : i < vs.length := by simpa using (List.getElem?_eq_some_iff.mp e1).1
  rw [List.getElem?_reverse h1] at e1
  rw [List.getElem?_reverse (by omega)] at e2
  rw [hl] at e1
  exact paired_get q _ v w e1 e2
def fRevL (t : T) (G : GH) : R T := match rdl t G with
  | some ws => .ok (.tmp ws.reverse) G
  | none => .bad
def mRevL (m : M T) : M T := fun τ G => (m τ G).bind fRevL
@[simp] theorem mRevL_at (m : M T) (τ : Sl) (G : GH) : mRevL m τ G = (m τ G).bind fRevL := (rfl)
theorem s_revL {e : Expr} {m : M T} {k : Nat} {p1 p2 p3 : Pos} (he : PE X e (tE X.K ca Wx m)) : PE X (.Subscript e (.Slice none none (some (.UnaryOp .USub (.Constant (.int 1) k p1) p2)) p3) pos) (tE X.K ca Wx (mRevL m)) := by
  refine PE.weak (pe_revL he) fun σ H Q ⟨ρ, G, τ, r0, s0, h⟩ => ?_
  refine tE.seq r0 s0 h fun t G1 ρ1 H1 v x1 r1 s1 q1 h1 => ?_
  unfold fRevL at h1
  cases e0 : rdl t G1 with
  | none => rw [e0] at h1; exact h1.elim
  | some ws =>
    rw [e0] at h1
    obtain ⟨a, vs, rfl, hv, qs⟩ := rdl_of r1 q1 e0
    exact ⟨a, vs, rfl, hv, fun p hp => h1 ρ1 _ (.laid hp) (r1.laid hp) _ ((fresh_tmp r1 hp (relWs_back qs)).back x1 (.laid hp))⟩
/-! texts -/
def strsW : List W → Option (List Str)
  | [] => some []
  | .str x :: ws => (strsW ws).map (x :: ·)
  | _ :: _ => none
theorem strsW_ok {K : PySem.W.Frag} {ρ : List Addr} {H : Hp} : ∀ {vs : List V} {ws : List W} {xs : List Str}, RelWs K ca ρ H vs ws → strsW ws = some xs → vs = xs.map V.str
  | [], _, _, .nil, h => by cases h; rfl
  | v :: vs, w :: ws, xs, .cons q t, h => by
    cases q with
    | str x =>
      unfold strsW at h
      cases e : strsW ws with
      | none => rw [e] at h; cases h
      | some ys =>
        rw [e] at h
        cases h
        rw [strsW_ok t e]
        rfl
    | _ => cases h
/-- sep.join(texts) -/
def fJoin (t : T) (ts : List T) (G : GH) : R T := match t with
  | .val (.str a) => match ts with
    | [u] => match (match rdl u G with
        | some ws => some ws
        | none => rdt u) with
      | some ws => match strsW ws with
        | some ys => if (ys.map (·.length)).sum + ys.length * a.length ≤ 16777216 then .ok (.val (.str (Txt.join a ys))) G else .bad
        | none => .bad
      | none => .bad
    | _ => .bad
  | _ => .bad
theorem says_join : SaysM X ca (fun x xs H Q => ∃ a p, ∃ ys : List Str, x = .str a ∧ xs = [.ref p] ∧ (SqL X.K H p (ys.map V.str) ∨ SqT X.K H p (ys.map V.str)) ∧ (ys.map (·.length)).sum + ys.length * a.length ≤ 16777216 ∧ Q (.str (Txt.join a ys)) H) fJoin := by
  intro Wx σ ρ G H H0 x t xs ts Q r qx qs h
  unfold fJoin at h
  split at h
  · cases qx
    rename_i a
    split at h
    · rename_i u
      obtain ⟨v, rfl, qv⟩ := relTs_one qs
      split at h
      · rename_i ws e
        split at h
        · rename_i ys e2
          split at h
          · rename_i z
            have fin : ∀ p, (SqL X.K H p (ys.map V.str) ∨ SqT X.K H p (ys.map V.str)) → ∃ a' p', ∃ ys' : List Str, V.str a = .str a' ∧ [V.ref p] = [.ref p'] ∧ (SqL X.K H p' (ys'.map V.str) ∨ SqT X.K H p' (ys'.map V.str)) ∧ (ys'.map (·.length)).sum + ys'.length * a'.length ≤ 16777216 ∧ Q (.str (Txt.join a' ys')) H :=
              fun p hp => ⟨a, p, ys, rfl, rfl, hp, z, h ρ H .refl r _ (.str _)⟩
            cases e0 : rdl u G with
            | some ws' =>
              rw [e0] at e
              cases e
              obtain ⟨p, vs, rfl, hv, q1⟩ := rdl_of r qv e0
              rw [strsW_ok q1 e2] at hv
              exact fin p (.inl hv)
            | none =>
              rw [e0] at e
              obtain ⟨p, vs, rfl, hv, q1⟩ := rdt_of qv e
              rw [strsW_ok q1 e2] at hv
              exact fin p (.inr hv)
          · exact h.elim
        · exact h.elim
      · exact h.elim
    · exact h.elim
  · exact h.elim
/-- text.index(part): it is there -/
def fIdx (t : T) (ts : List T) (G : GH) : R T := match t with
  | .val (.str a) => match ts with
    | [.val (.str b)] => match Builtin.Str.occurrences a b 0 a.length 1 with
      | i :: _ => .ok (.val (.int (i : Nat))) G
      | [] => .bad
    | _ => .bad
  | _ => .bad
theorem says_sidx : SaysM X ca (fun x xs H Q => ∃ a b i rest, x = .str a ∧ xs = [.str b] ∧ Builtin.Str.occurrences a b 0 a.length 1 = i :: rest ∧ Q (.int (i : Nat)) H) fIdx := by
  intro Wx σ ρ G H H0 x t xs ts Q r qx qs h
  unfold fIdx at h
  split at h
  · cases qx
    split at h
    · obtain ⟨v, rfl, qv⟩ := relTs_one qs
      cases qv
      split at h
      · rename_i i rest e
        exact ⟨_, _, i, rest, rfl, rfl, e, h ρ H .refl r _ (.int _)⟩
      · exact h.elim
    · exact h.elim
  · exact h.elim
/-- text.split(sep) -/
def fSplit (t : T) (ts : List T) (G : GH) : R T := match t with
  | .val (.str a) => match ts with
    | [.val (.str b)] => if (b.length == 0) = false ∧ a.length + 2 ≤ 16777216 then .ok (.tmp ((Txt.split a b).map W.str)) G else .bad
    | _ => .bad
  | _ => .bad
theorem relWs_strs {K : PySem.W.Frag} {ρ : List Addr} {H : Hp} : ∀ (ys : List Str), RelWs K ca ρ H (ys.map V.str) (ys.map W.str)
  | [] => .nil
  | _ :: ys => .cons (.str _) (relWs_strs ys)
theorem says_split : SaysM X ca (fun x xs H Q => ∃ a b, x = .str a ∧ xs = [.str b] ∧ (b.length == 0) = false ∧ a.length + 2 ≤ sizeLine ∧ rNewStrs (Txt.split a b) H Q) fSplit := by
  intro Wx σ ρ G H H0 x t xs ts Q r qx qs h
  unfold fSplit at h
  split at h
  · cases qx
    split at h
    · obtain ⟨v, rfl, qv⟩ := relTs_one qs
      cases qv
      split at h
      · rename_i z
        exact ⟨_, _, rfl, rfl, z.1, by rw [sizeLine_eq]; exact z.2, fun p hp => h ρ _ (.laid hp) (r.laid hp) _ (fresh_tmp r hp (relWs_strs _))⟩
      · exact h.elim
    · exact h.elim
  · exact h.elim
end
end Sy
set_option Elab.async false
set_option linter.all false
set_option maxRecDepth 100000
set_option maxHeartbeats 4000000
namespace Sy
open PySem PySem.Spec PyProof.Rows L2
section
variable {X : Cx} {ca : Nat → Addr} {Wx : WX} {pos : Pos}
/-! list.index, list.count -/
def fIdxL (t : T) (ts : List T) (G : GH) : R T := match ts with
  | [u] => match toDT G t, toDT G u with
    | some (.list ds), some d => match ds.findIdx? (fun z => PyData.eqv z d) with
      | some j => .ok (.val (.int (j : Nat))) G
      | none => .bad
    | _, _ => .bad
  | _ => .bad
theorem toDT_listref {K : PySem.W.Frag} {ρ : List Addr} {G : GH} {H H0 : Hp} {x : V} {t : T} {ds : List PyData} (q : RelT K ca H0 ρ H x t) (h : toDT G t = some (.list ds)) : ∃ a, x = .ref a := by
  cases t with
  | tmp ws =>
    obtain ⟨p, vs, rfl, _⟩ := q
    exact ⟨p, rfl⟩
  | val w =>
    cases w with
    | loc n => cases q; exact ⟨_, rfl⟩
    | frl ws =>
      obtain ⟨a, vs, rfl, _⟩ := relW_frl q
      exact ⟨a, rfl⟩
    | tup ws =>
      have h' : (mapO (toD 8 G) ws).map PyData.tuple = some (.list ds) := h
      cases e : mapO (toD 8 G) ws with
      | none => rw [e] at h'; cases h'
      | some us => rw [e] at h'; cases h'
    | str x =>
      have h' : (if x.cps.all (· < 0x110000) then some (PyData.str x) else none) = some (.list ds) := h
      split at h' <;> cases h'
    | non => cases h
    | bl b => cases h
    | int i => cases h
    | ty n => cases h
    | cls n => cases h
    | exn c a => cases h
theorem says_idxL : SaysM X ca (rIndexD X.K) fIdxL := by
  intro Wx σ ρ G H H0 x t xs ts Q r qx qs h
  unfold fIdxL at h
  split at h
  · rename_i u
    obtain ⟨v, rfl, qv⟩ := relTs_one qs
    split at h
    · rename_i ds d e1 e2
      split at h
      · rename_i j ej
        obtain ⟨a, rfl⟩ := toDT_listref qx e1
        obtain ⟨a1, a2⟩ := toDT_dp r qx e1
        obtain ⟨b1, b2⟩ := toDT_dp r qv e2
        obtain ⟨hj, p1, p2⟩ := List.findIdx?_eq_some_iff_getElem.mp ej
        refine ⟨a, v, d, ds, j, ds[j], rfl, rfl, a1, b1, a2, b2, List.getElem?_eq_getElem hj, p1, fun m z' hm hz => ?_, h ρ H .refl r _ (.int _)⟩
        have hml : m < ds.length := Nat.lt_trans hm hj
        rw [List.getElem?_eq_getElem hml] at hz
        cases hz
        have := p2 m hm
        simpa using this
      · exact h.elim
    · exact h.elim
  · exact h.elim
def fCntL (t : T) (ts : List T) (G : GH) : R T := match rdl t G, ts with
  | some ws, [.val (.int k)] => match intsW ws with
    | some ns => .ok (.val (.int (ns.count k : Nat))) G
    | none => .bad
  | _, _ => .bad
theorem says_cntL : SaysM X ca (rCntI X.K) fCntL := by
  intro Wx σ ρ G H H0 x t xs ts Q r qx qs h
  unfold fCntL at h
  split at h
  · rename_i ws k e0
    split at h
    · rename_i ns e1
      obtain ⟨a, vs, rfl, hv, q1⟩ := rdl_of r qx e0
      obtain ⟨v, rfl, qv⟩ := relTs_one qs
      cases qv
      rw [intsW_of q1 e1] at hv
      exact ⟨a, ns, k, rfl, rfl, hv, h ρ H .refl r _ (.int _)⟩
    · exact h.elim
  · exact h.elim
/-! min, max of one list -/
theorem CallR.or {f : Value} {r r' : List V → Hp → VK → Prop} (h : CallR X f r) (h' : CallR X f r') : CallR X f (fun xs H Q => r xs H Q ∨ r' xs H Q) := by
  intro pins s σ H xs us Q I rs q
  rcases q with q | q
  · exact h pins s σ H xs us Q I rs q
  · exact h' pins s σ H xs us Q I rs q
open SeqAt PySem.W in
def minS (x : Str) (xs : List Str) : Str := xs.foldl (fun a y => if dataLt (.str y) (.str a) then y else a) x
theorem minD_strs (x : Str) : ∀ xs : List Str, PySem.W.minD (.str x) (xs.map .str) = .str (minS x xs) := by
  intro xs
  unfold PySem.W.minD minS
  induction xs generalizing x with
  | nil => rfl
  | cons y r ih =>
    rw [List.map_cons, List.foldl_cons, List.foldl_cons, ← ih]
    congr 1
    split <;> rfl
theorem readsAll_strs {h : Heap} : ∀ {vs : List Value} {ys : List Str}, StrsAre vs ys → ∃ as, ReadsAll h vs (ys.map PyData.str) as := by
  intro vs ys hs
  induction hs with
  | nil => exact ⟨_, .nil⟩
  | cons y t r ih =>
    obtain ⟨as, q⟩ := ih
    exact ⟨_, .cons (.str y t) q⟩
theorem depth_strs : ∀ ys : List Str, PyData.depthAll (ys.map PyData.str) = 0
  | [] => rfl
  | y :: ys => by
    rw [List.map_cons, PyData.depthAll, depth_strs ys]
    rfl
def rMinS (K : PySem.W.Frag) : List V → Hp → VK → Prop := fun vs H Q => ∃ (a : Addr) (y : Str) (ys : List Str), vs = [V.ref a] ∧ SqL K H a ((y :: ys).map V.str) ∧ Q (.str (minS y ys)) H
theorem cr_minS (hc : X.calm = true) (hu : X.A.units + 64 < cLine) : CallR X (.builtin "min") (rMinS X.K) := by
  intro pins s σ H vs us Q I r h
  obtain ⟨a, y, ys, rfl, hs, q⟩ := h
  obtain ⟨its, rv, hl, _⟩ := I.list hs
  rw [Vals.ref1 r]
  obtain ⟨as, hr⟩ := readsAll_strs (h := s.heap) rv.strs
  refine PySem.W.min_list_data (x := .str y) (xs := ys.map PyData.str) (as := as) (I.ok.hd hc) hl.isList hr ⟨fun u hu w hw => ?_, fun u hu => ?_⟩ ?_ fun i v h' tk bs _ hv hk => ?_
  · obtain ⟨u', _, rfl⟩ := List.mem_map.mp (show u ∈ (y :: ys).map PyData.str from hu)
    obtain ⟨w', _, rfl⟩ := List.mem_map.mp (show w ∈ (y :: ys).map PyData.str from hw)
    rfl
  · obtain ⟨u', _, rfl⟩ := List.mem_map.mp (show u ∈ (y :: ys).map PyData.str from hu)
    exact fun z => nomatch z
  · rw [show (PyData.str y :: ys.map PyData.str) = (y :: ys).map PyData.str from rfl, depth_strs]
    omega
  · rw [minD_strs] at hv
    cases hv
    exact ⟨.str _, H, I.kept hk, ⟨_, rfl⟩, q⟩
/-- the least of some -/
def leastI : List Int → Option Int
  | [] => none
  | n :: ns => some (ns.foldl min n)
def mostI : List Int → Option Int
  | [] => none
  | n :: ns => some (ns.foldl max n)
theorem foldl_min_mem (n : Int) : ∀ ns : List Int, (ns.foldl min n) ∈ n :: ns ∧ ∀ m ∈ n :: ns, ns.foldl min n ≤ m := by
  intro ns
  induction ns generalizing n with
  | nil => exact ⟨List.mem_cons_self, fun m hm => by simp at hm; subst hm; exact Int.le_refl _⟩
  | cons k r ih =>
    obtain ⟨h1, h2⟩ := ih (min n k)
    rw [List.foldl_cons]
    refine ⟨?_, fun m hm => ?_⟩
    · rcases List.mem_cons.mp h1 with z | z
      · rw [z]
        by_cases hk : n ≤ k
        · rw [Int.min_eq_left hk]; exact List.mem_cons_self
        · rw [Int.min_eq_right (by omega)]; exact List.mem_cons_of_mem _ List.mem_cons_self
      · exact List.mem_cons_of_mem _ (List.mem_cons_of_mem _ z)
    · have h0 := h2 (min n k) List.mem_cons_self
      rcases List.mem_cons.mp hm with rfl | hm
      · exact Int.le_trans h0 (Int.min_le_left _ _)
      · rcases List.mem_cons.mp hm with rfl | hm
        · exact Int.le_trans h0 (Int.min_le_right _ _)
        · exact h2 m (List.mem_cons_of_mem _ hm)
theorem foldl_max_mem (n : Int) : ∀ ns : List Int, (ns.foldl max n) ∈ n :: ns ∧ ∀ m ∈ n :: ns, m ≤ ns.foldl max n := by
  intro ns
  induction ns generalizing n with
  | nil => exact ⟨List.mem_cons_self, fun m hm => by simp at hm; subst hm; exact Int.le_refl _⟩
  | cons k r ih =>
    obtain ⟨h1, h2⟩ := ih (max n k)
    rw [List.foldl_cons]
    refine ⟨?_, fun m hm => ?_⟩
    · rcases List.mem_cons.mp h1 with z | z
      · rw [z]
        by_cases hk : n ≤ k
        · rw [Int.max_eq_right hk]; exact List.mem_cons_of_mem _ List.mem_cons_self
        · rw [Int.max_eq_left (by omega)]; exact List.mem_cons_self
      · exact List.mem_cons_of_mem _ (List.mem_cons_of_mem _ z)
    · have h0 := h2 (max n k) List.mem_cons_self
      rcases List.mem_cons.mp hm with rfl | hm
      · exact Int.le_trans (Int.le_max_left _ _) h0
      · rcases List.mem_cons.mp hm with rfl | hm
        · exact Int.le_trans (Int.le_max_right _ _) h0
        · exact h2 m (List.mem_cons_of_mem _ hm)
def fMin1 (ts : List T) (G : GH) : R T := match ts with
  | [t] => match rdl t G with
    | some ws => match intsW ws with
      | some ns => match leastI ns with
        | some m => .ok (.val (.int m)) G
        | none => .bad
      | none => match strsW ws with
        | some (y :: ys) => .ok (.val (.str (minS y ys))) G
        | _ => .bad
    | none => .bad
  | _ => .bad
def fMax1 (ts : List T) (G : GH) : R T := match ts with
  | [t] => match rdl t G with
    | some ws => match (intsW ws).bind mostI with
      | some m => .ok (.val (.int m)) G
      | none => .bad
    | none => .bad
  | _ => .bad
theorem says_min1 : SaysC X ca (fun xs H Q => rMin X.K xs H Q ∨ rMinS X.K xs H Q) fMin1 := by
  intro Wx σ ρ G H H0 xs ts Q r q h
  unfold fMin1 at h
  split at h
  · rename_i t
    obtain ⟨v, rfl, qv⟩ := relTs_one q
    split at h
    · rename_i ws e0
      obtain ⟨a, vs, rfl, hv, q1⟩ := rdl_of r qv e0
      split at h
      · rename_i ns e1
        split at h
        · rename_i m e2
          rw [intsW_of q1 e1] at hv
          cases ns with
          | nil => cases e2
          | cons n ns =>
            cases e2
            obtain ⟨h1, h2⟩ := foldl_min_mem n ns
            refine .inl ⟨a, n :: ns, rfl, hv, by simp, fun m hm hle => ?_⟩
            have e3 : m = ns.foldl min n := Int.le_antisymm (hle _ h1) (h2 m hm)
            rw [e3]
            exact h ρ H .refl r _ (.int _)
        · exact h.elim
      · split at h
        · rename_i y ys e2
          rw [strsW_ok q1 e2] at hv
          exact .inr ⟨a, y, ys, rfl, hv, h ρ H .refl r _ (.str _)⟩
        · exact h.elim
    · exact h.elim
  · exact h.elim
theorem says_max1 : SaysC X ca (rMax X.K) fMax1 := by
  intro Wx σ ρ G H H0 xs ts Q r q h
  unfold fMax1 at h
  split at h
  · rename_i t
    obtain ⟨v, rfl, qv⟩ := relTs_one q
    split at h
    · rename_i ws e0
      obtain ⟨a, vs, rfl, hv, q1⟩ := rdl_of r qv e0
      split at h
      · rename_i m e2
        cases e1 : intsW ws with
        | none => rw [e1] at e2; cases e2
        | some ns =>
          rw [e1, Option.bind_some] at e2
          rw [intsW_of q1 e1] at hv
          cases ns with
          | nil => cases e2
          | cons n ns =>
            cases e2
            obtain ⟨h1, h2⟩ := foldl_max_mem n ns
            refine ⟨a, n :: ns, rfl, hv, by simp, fun m hm hle => ?_⟩
            have e3 : m = ns.foldl max n := Int.le_antisymm (h2 m hm) (hle _ h1)
            rw [e3]
            exact h ρ H .refl r _ (.int _)
      · exact h.elim
    · exact h.elim
  · exact h.elim
/-! range with a step -/
def rangeWC (lo c : Int) (n : Nat) : List W := (List.range n).map fun (i : Nat) => .int (lo + (i : Int) * c)
theorem itrc_ok {K : PySem.W.Frag} {ρ : List Addr} {H : Hp} {lo c : Int} {n : Nat} : ItOk K ca (Itc lo c n) (rangeWC lo c n) [] ρ H := by
  intro i ρ' G' H' e r' _
  have hl : (rangeWC lo c n).length = n := by unfold rangeWC; simp
  refine ⟨fun w hw => ?_, fun h => by show n ≤ i; omega⟩
  have h1 : i < n := by rw [← hl]; exact (List.getElem?_eq_some_iff.mp hw).1
  refine ⟨h1, fun y H2 hy => ?_⟩
  obtain ⟨rfl, rfl⟩ := hy
  unfold rangeWC at hw
  rw [List.getElem?_map, List.getElem?_range h1] at hw
  cases hw
  exact ⟨.refl, r', .int _⟩
def iterR3 (ws : List W) (G : GH) : R (List W × Src) := match ws with
  | [.int i, .int j, .int c] => if c ≠ 0 ∧ c.natAbs < 1073741824 ∧ Builtin.Range.small i j c = true ∧ 0 ≤ Builtin.Range.rangeSize i j c then .ok (rangeWC i c (Builtin.Range.rangeSize i j c).toNat, []) G else .bad
  | _ => .bad
def miR3 (m : M (List W)) : M (List W × Src) := fun τ G => (m τ G).bind iterR3
theorem relWs_three {K : PySem.W.Frag} {ρ : List Addr} {H : Hp} {vs : List V} {w u x : W} (q : RelWs K ca ρ H vs [w, u, x]) : ∃ v z y, vs = [v, z, y] ∧ RelW K ca ρ H v w ∧ RelW K ca ρ H z u ∧ RelW K ca ρ H y x := by
  cases q with
  | cons q t =>
    obtain ⟨a, b, rfl, h1, h2⟩ := relWs_two t
    exact ⟨_, a, b, rfl, q, h1, h2⟩
theorem i_range3 {a b c tg : Expr} {m : M (List W)} {p : Pos} (hg : Gl X "range") (hm : X.mg "range" = none) (ha : PA X [a, b, c] (tA X.K ca Wx m)) (hs : starEach [a, b, c] X.env = (false, eval a X.env) :: starEach [b, c] X.env := by rfl)
    (hpl : (backTo pos (starEach [b, c] X.env)).any (·.1) = false := by rfl) : PI X tg (.Call (.Name "range" p) [a, b, c] [] pos) (tI X.K ca Wx (miR3 m)) := by
  refine PI.weak (pi_range3 hg hm ha hs hpl) fun σ H R ⟨ρ, G, τ, r, sl, h⟩ => ?_
  refine tA.seq r sl h fun ws G1 ρ1 H1 vs x1 r1 s1 q1 h1 => ?_
  unfold iterR3 at h1
  split at h1
  · split at h1
    · rename_i i j c z
      obtain ⟨v, u, y, rfl, qv, qu, qy⟩ := relWs_three q1
      cases qv; cases qu; cases qy
      exact ⟨i, j, c, _, rfl, ⟨z.1, z.2.1, z.2.2.1, (Int.toNat_of_nonneg z.2.2.2).symm⟩, h1 ρ1 H1 .refl r1 _ itrc_ok⟩
    · exact h1.elim
  · exact h1.elim
/-! xs[i] op= e, of ints -/
theorem get_list : PGet X (rIxL X.K) := by
  intro pins s σ H o i ov iv Q I ro ri h
  obtain ⟨p, xs, k, z, rfl, rfl, hq, he, q⟩ := h
  cases ro
  obtain ⟨t, rfl⟩ := ri
  obtain ⟨its, r, pl, hz⟩ := I.list hq
  obtain ⟨j, h1, h2, h3, h4, h5⟩ := atI_get he
  obtain ⟨w, ew, rw'⟩ := r.get h2
  have hl := r.length
  have hn := line63
  have fin : EP X pins σ Q w s := ⟨z, H, I, rw', q⟩
  by_cases h0 : 0 ≤ k
  · have hj : k.toNat = j := by
      rw [seqIndex_of h0 h5] at h1
      exact Option.some.inj h1
    exact wpAny_getItem_list pl.isList h0 (by omega) (by rw [hj]; simpa using ew) fin
  · have hj : (k + (its.toArray.size : Int)).toNat = j := by
      rw [seqIndex_neg (by omega) h4] at h1
      rw [List.size_toArray, ← hl]
      exact Option.some.inj h1
    exact wpAny_getItem_list_neg pl.isList (by omega) (by rw [List.size_toArray] <;> omega) (by omega) (by rw [hj]; simpa using ew) fin
def sAugS (f : Int → Int → Int) (mo mi m : M T) : MS := fun τ G => (mo τ G).toS τ fun t G1 => (mi τ G1).toS τ fun i G2 => match i, lstAt t G2 with
  | .val (.int k), some (n, us) => match atI us k with
    | some (.int x) => (m τ G2).toS τ fun y G3 => match y, lstAt t G3 with
      | .val (.int z), some (_, us3) => match ixN us3.length k with
        | some j => .nx τ (G3.set n (.lst (us3.set j (.int (f x z)))))
        | none => .bad
      | _, _ => .bad
    | _ => .bad
  | _, _ => .bad
theorem lstAt_loc' {t : T} {G : GH} {n : Nat} {us : List W} (h : lstAt t G = some (n, us)) : t = .val (.loc n) := by
  unfold lstAt at h
  split at h
  · rename_i m
    cases e : G[m]?.bind GO.wr with
    | none => rw [e] at h; cases h
    | some ws => rw [e] at h; cases h; rfl
  · cases h
theorem s_augS {o i e : Expr} {mo mi m : M T} {op : Operator} {f : Int → Int → Int} {tpos : Pos} (ho : PE X o (tE X.K ca Wx mo)) (hi : PE X i (tE X.K ca Wx mi)) (he : PE X e (tE X.K ca Wx m)) (hp : OpR X (inplaceOp op) (rI0 fun i j => .int (f i j)))
    (ha : ∀ ov iv new, augStore i ov iv new = (do holding [new, ov, iv] (setItem ov iv new); release [new, ov, iv] []; pure .next) := by intros; rfl) : PS X (.AugAssign (.Subscript o i tpos) op e pos) (tS X.K ca Wx (sAugS f mo mi m)) := by
  refine PS.weak (ps_augS ho hi get_list he (aug_I hp) set_list ha) fun D σ H ⟨ρ, G, τ, r, s, h⟩ => ?_
  refine tE.seqS r s h fun t G1 ρ1 H1 vo x1 r1 s1 q1 h1 => ?_
  refine tE.seqS r1 s1 h1 fun u G2 ρ2 H2 vi x2 r2 s2 q2 h2 => ?_
  split at h2
  · rename_i k n us e0
    split at h2
    · rename_i x ex
      cases q2
      obtain ⟨a, vs, rfl, hn, hl, qa⟩ := lstAt_of r2 (q1.ext r1 x2) e0
      obtain ⟨vx, e1, qx⟩ := relWs_atI qa ex
      cases qx
      refine ⟨a, vs, k, .int x, rfl, rfl, .of hl, e1, ?_⟩
      refine tE.seqS r2 s2 h2 fun y G3 ρ3 H3 vy x3 r3 s3 q3 h3 => ?_
      split at h3
      · rename_i z n3 us3 e3
        split at h3
        · rename_i j ej
          cases q3
          obtain ⟨a3, vs3, e4, hn3, hl3, qa3⟩ := lstAt_of r3 ((q1.ext r1 x2).ext r2 x3) e3
          cases e4
          have hnn : n3 = n := by
            have z1 := lstAt_loc' e0
            have z2 := lstAt_loc' e3
            rw [z1] at z2
            cases z2
            rfl
          subst hnn
          refine ⟨x, z, rfl, rfl, ?_⟩
          refine ⟨a, vs3, k, j, rfl, rfl, hl3, by rw [qa3.length]; exact ej, ?_⟩
          exact h3 ρ3 _ σ (.put hn3) (r3.put hn3 hl3 (relWs_set (.int _) j qa3)) (s3.ext r3 (.put hn3))
        · exact h3.elim
      · exact h3.elim
    · exact h2.elim
  · exact h2.elim
end
end Sy
set_option Elab.async false
set_option linter.all false
set_option maxRecDepth 100000
set_option maxHeartbeats 4000000
namespace Sy
open PySem PySem.Spec PyProof.Rows L2
/-! zip of lists and tuples, in any mixture; zip of three -/
/-- k: a tuple -/
def SqK (k : Bool) (K : PySem.W.Frag) (H : Hp) (a : Addr) (xs : List V) : Prop := match k with
  | true => SqT K H a xs
  | false => SqL K H a xs
def HasK (k : Bool) (h : Heap) (a : Addr) (its : Array Value) : Prop := match k with
  | true => h.IsTuple a its
  | false => h.IsList a its
def ItK (k : Bool) (h : Heap) (it a : Addr) (i : Nat) : Prop := match k with
  | true => h.IsTupleIter it a i
  | false => h.IsListIter it a i
section
variable {X : Cx} {pins : List (Addr × Obj)} {σ : SSt} {H : Hp} {s : Shared} {k : Bool} {a it : Addr} {i : Nat}
theorem sqK_of {xs : List V} (I : Inv X pins σ H s) (h : SqK k X.K H a xs) : ∃ its : List Value, Vals xs its ∧ HasK k s.heap a its.toArray ∧ a < s.heap.objs.size := by
  cases k with
  | true =>
    obtain ⟨its, r, p, _⟩ := I.tuple h
    obtain ⟨o, ho, _⟩ := id p
    exact ⟨its, r, p, Heap.lt_size ho⟩
  | false =>
    obtain ⟨its, r, p, _⟩ := I.list h
    exact ⟨its, r, p.isList, p.lt⟩
theorem sqK_inj {xs ys : List V} (I : Inv X pins σ H s) (h : SqK k X.K H a xs) (h' : SqK k X.K H a ys) : xs = ys := by
  cases k with
  | true => exact I.tuple_inj h h'
  | false => exact I.list_inj h h'
theorem ItK.at' {h h' : Heap} (p : ItK k h it a i) (q : ∀ o, h.get? it = some o → h'.get? it = some o) : ItK k h' it a i := by
  cases k with
  | true => exact Heap.IsTupleIter.at p q
  | false => exact Heap.IsListIter.at p q
theorem HasK.at' {h h' : Heap} {its : Array Value} (p : HasK k h a its) (q : ∀ o, h.get? a = some o → h'.get? a = some o) : HasK k h' a its := by
  cases k with
  | true => exact Heap.IsTuple.at p q
  | false => exact Heap.IsList.at p q
theorem ItK.live {h : Heap} (p : ItK k h it a i) : ∃ o, h.get? it = some o ∧ ∀ v, o.data ≠ .cell v := by
  cases k with
  | true => obtain ⟨o, e, _, d⟩ := p; exact ⟨o, e, fun v q => by rw [d] at q; cases q⟩
  | false => obtain ⟨o, e, _, d⟩ := p; exact ⟨o, e, fun v q => by rw [d] at q; cases q⟩
theorem HasK.live {h : Heap} {its : Array Value} (p : HasK k h a its) : ∃ o, h.get? a = some o := by
  cases k with
  | true => obtain ⟨o, e, _⟩ := p; exact ⟨o, e⟩
  | false => obtain ⟨o, e, _⟩ := p; exact ⟨o, e⟩
theorem drawsK {prog : Program} {w : World} {A : Around} (hh : A.handled = none) (k : Bool) (it a : Addr) (hne : a ≠ it) (its : Array Value) :
    Draws prog w A it [it, a] its.size (fun i v => its[i]? = some v) (fun i h => ItK k h it a i ∧ HasK k h a its) := by
  cases k with
  | true => exact Draws.tuple hh it a hne its
  | false => exact Draws.list hh it a hne its
/-- at its end -/
theorem drawsE {prog : Program} {w : World} {A : Around} (hh : A.handled = none) (k : Bool) (it a : Addr) (its : Array Value) (n : Nat) (hn : its.size ≤ n) :
    Draws prog w A it [it, a] n (fun i v => its[i]? = some v) (fun i h => i = n ∧ ItK k h it a i ∧ HasK k h a its) where
  live := fun _ _ st => let ⟨o, ho, _⟩ := st.2.1.live; ⟨o, ho⟩
  frame := fun _ _ _ st hk => ⟨st.1, st.2.1.at' fun o e => hk it (by simp) o e, st.2.2.at' fun o e => hk a (by simp) o e⟩
  item := fun i s Q E hi st hQ => by
    have := st.1
    omega
  done := fun s Q E st hE => by
    have h0 : its[n]? = none := by simp [hn]
    cases k with
    | true => exact wpAny_nextOf_tuple_end hh st.2.1 st.2.2 h0 hE
    | false => exact wpAny_nextOf_list_end hh st.2.1 st.2.2 h0 hE
theorem draws_at {prog : Program} {w : World} {A : Around} {h : Heap} (hh : A.handled = none) (k : Bool) (it a : Addr) (hne : a ≠ it) (its : Array Value) (i : Nat) (p : ItK k h it a i) (q : HasK k h a its) :
    ∃ n St, Draws prog w A it [it, a] n (fun i v => its[i]? = some v) St ∧ St i h ∧ i ≤ n ∧ (its.size ≤ i → i = n) := by
  by_cases hi : i < its.size
  · exact ⟨_, _, drawsK hh k it a hne its, ⟨p, q⟩, by omega, fun z => by omega⟩
  · exact ⟨i, _, drawsE hh k it a its i (by omega), ⟨rfl, p, q⟩, by omega, fun _ => rfl⟩
end
/-! two -/
structure Ap2 (z TI TO i1 i2 a b : Addr) : Prop where
  TIz : TI ≠ z
  TOz : TO ≠ z
  TITO : TI ≠ TO
  TIi1 : TI ≠ i1
  TIi2 : TI ≠ i2
  TOi1 : TO ≠ i1
  TOi2 : TO ≠ i2
  zi1 : z ≠ i1
  zi2 : z ≠ i2
  i12 : i1 ≠ i2
  za : z ≠ a
  zb : z ≠ b
  TOa : TO ≠ a
  TOb : TO ≠ b
  i1a : i1 ≠ a
  i1b : i1 ≠ b
  i2a : i2 ≠ a
  i2b : i2 ≠ b
theorem Ap2.sep {z TI TO i1 i2 a b : Addr} (D : Ap2 z TI TO i1 i2 a b) : ZipSep2 z TI TO i1 i2 [i1, a] [i2, b] where
  TIz := D.TIz
  TOz := D.TOz
  TITO := D.TITO
  TIi1 := D.TIi1
  mem1 := by simp
  zf1 := by simp [D.zi1, D.za]
  Tf1 := by simp [D.TOi1, D.TOa]
  TIi2 := D.TIi2
  mem2 := by simp
  zf2 := by simp [D.zi2, D.zb]
  Tf2 := by simp [D.TOi2, D.TOb]
  sep1_2 := by simp [D.i12, D.i1b]
  sep2_1 := by simp [D.i12.symm, D.i2a]
theorem ap2_new (n a b : Addr) (ha : a < n) (hb : b < n) : Ap2 (n + 4) (n + 2) (n + 3) n (n + 1) a b := by
  constructor <;> (first | (show (_ : Nat) ≠ (_ : Nat); unfold Addr at *; omega) | (intro e; have e2 : (_ : Nat) = _ := e; omega))
def Itz2 (k1 k2 : Bool) (K : PySem.W.Frag) (a b : Addr) : It :=
  ⟨fun i H => ∃ (xs ys : List V) (x y : V), SqK k1 K H a xs ∧ SqK k2 K H b ys ∧ xs[i]? = some x ∧ ys[i]? = some y,
    fun i H v H' => ∃ T x y, v = .ref T ∧ H T = none ∧ H' = upd H T (.tup [x, y]) ∧ (∀ xs, SqK k1 K H a xs → xs[i]? = some x) ∧ ∀ ys, SqK k2 K H b ys → ys[i]? = some y,
    fun i H => ∃ xs ys : List V, SqK k1 K H a xs ∧ SqK k2 K H b ys ∧ (xs.length ≤ i ∨ ys.length ≤ i)⟩
theorem turn_zip2 {P : Program} {w : World} {K : PySem.W.Frag} {elts : List Expr} {kk : Nat} {tpos : Pos} {k1 k2 : Bool} {a b z TI TO i1 i2 : Addr} (D : Ap2 z TI TO i1 i2 a b) :
    Turn P w K (.Tuple elts kk tpos) (Itz2 k1 k2 K a b) [z, TI, TO, i1, i2] z (fun i h => IsZip h z TI TO .none ∧ IsTupOf2 h TI (.ref i1) (.ref i2) ∧ (∃ x y, IsTupOf2 h TO x y) ∧ ItK k1 h i1 a i ∧ ItK k2 h i2 b i) where
  mem := by simp
  obj := fun i h st c hc => by
    obtain ⟨hz, hTI, ⟨x, y, hTO⟩, h1, h2⟩ := st
    have e' : c = z ∨ c = TI ∨ c = TO ∨ c = i1 ∨ c = i2 := by simpa using hc
    rcases e' with q | q | q | q | q
    · rw [q]; exact ⟨_, hz, fun v q => nomatch q⟩
    · rw [q]; exact ⟨_, hTI, fun v q => nomatch q⟩
    · rw [q]; exact ⟨_, hTO, fun v q => nomatch q⟩
    · rw [q]; exact h1.live
    · rw [q]; exact h2.live
  keep := fun i h h' st k => by
    obtain ⟨hz, hTI, ⟨x, y, hTO⟩, h1, h2⟩ := st
    exact ⟨k z (by simp) _ hz, k TI (by simp) _ hTI, ⟨x, y, k TO (by simp) _ hTO⟩, h1.at' fun o q => k i1 (by simp) o q, h2.at' fun o q => k i2 (by simp) o q⟩
  item := by
    intro X hP hw hK hc i pins s σ H E I hf st hg
    subst hP hw hK
    obtain ⟨hz, hTI, ⟨x0, y0, hTO⟩, h1, h2⟩ := st
    obtain ⟨xs, ys, x, y, hqx, hqy, hx, hy⟩ := hg
    obtain ⟨its, rv, p, _⟩ := sqK_of I hqx
    obtain ⟨its2, rv2, p2, _⟩ := sqK_of I hqy
    obtain ⟨u, hu, ru⟩ := rv.get hx
    obtain ⟨u2, hu2, ru2⟩ := rv2.get hy
    have hzl : z < s.heap.objs.size := Heap.lt_size hz
    have hh : X.A.in1.handled = none := I.ok.hd hc
    refine wpAny_pyNext_zipD2_item D.sep (drawsK hh k1 i1 a D.i1a.symm its.toArray) (drawsK hh k2 i2 b D.i2b.symm its2.toArray) hz hTI hTO ⟨h1, p⟩ ⟨h2, p2⟩ ((by simpa using (List.getElem?_eq_some_iff.mp hu).1)) ((by simpa using (List.getElem?_eq_some_iff.mp hu2).1)) fun x1 x2 h' tk g1 g2 z' TO' d1 d2 hT hsz hk => ?_
    have e1 : x1 = u := by
      have : its[i]? = some x1 := by simpa using g1
      rw [hu] at this; cases this; rfl
    have e2 : x2 = u2 := by
      have : its2[i]? = some x2 := by simpa using g2
      rw [hu2] at this; cases this; rfl
    subst e1 e2
    refine ⟨_, rfl, wpAny_letOwnedTupleGo_zip (s := { s with heap := h', toks := tk }) z' fun h'' z'' sb => ?_⟩
    have hT2 : h''.get? s.heap.objs.size = some { cls := .type "tuple", data := .seq #[x1, x2] } := (sb.2 _ (Nat.ne_of_gt hzl)).trans hT
    have new : ObjOk X.prog X.w (upd H s.heap.objs.size (.tup [x, y])) h'' s.heap.objs.size (.tup [x, y]) :=
      ⟨by show 2 ≤ sizeLine; decide, [x1, x2], .cons ru (.cons ru2 .nil), ⟨_, hT2, rfl, _, rfl⟩⟩
    have I1 : Inv X pins σ (upd H s.heap.objs.size (.tup [x, y])) { s with heap := h'', toks := tk } :=
      I.turnedNew (t' := tk) (ch := [z, TI, TO, i1, i2]) (fun c o hb q => (sb.2 c (fun q' => hb (by simp [q']))).trans (hk c o (fun q' => hb (by simp [q'])) (fun q' => hb (by simp [q'])) (fun q' => hb (by simp [q'])) (fun q' => hb (by simp [q'])) q)) hf (Nat.le_refl _) new
    refine ⟨.ref s.heap.objs.size, _, I1, rfl, ⟨_, x, y, rfl, I.hok.fresh (Nat.le_refl _), rfl, fun l hl => by rw [sqK_inj I hl hqx]; exact hx, fun l hl => by rw [sqK_inj I hl hqy]; exact hy⟩, ⟨z'', ?_, ⟨x1, x2, ?_⟩, ?_, ?_⟩, fun c hcm => ?_⟩
    · exact (sb.2 _ D.TIz).trans (hk _ _ D.TIz D.TITO D.TIi1 D.TIi2 hTI)
    · exact (sb.2 _ D.TOz).trans TO'
    · exact d1.1.at' fun o q => (sb.2 _ D.zi1.symm).trans q
    · exact d2.1.at' fun o q => (sb.2 _ D.zi2.symm).trans q
    · have hlt : c < s.heap.objs.size := by
        have e' : c = z ∨ c = TI ∨ c = TO ∨ c = i1 ∨ c = i2 := by simpa using hcm
        rcases e' with q | q | q | q | q
        · rw [q]; exact hzl
        · rw [q]; exact Heap.lt_size hTI
        · rw [q]; exact Heap.lt_size hTO
        · rw [q]; obtain ⟨_, e1, _⟩ := h1.live; exact Heap.lt_size e1
        · rw [q]; obtain ⟨_, e2, _⟩ := h2.live; exact Heap.lt_size e2
      rw [upd_ne (Nat.ne_of_lt hlt)]
      exact (hf c hcm).1
  done := by
    intro X hP hw hK hc i pins s σ H E I hf st hg
    subst hP hw hK
    obtain ⟨hz, hTI, ⟨x0, y0, hTO⟩, h1, h2⟩ := st
    obtain ⟨xs, ys, hqx, hqy, hend⟩ := hg
    obtain ⟨its, rv, p, _⟩ := sqK_of I hqx
    obtain ⟨its2, rv2, p2, _⟩ := sqK_of I hqy
    have l1 := rv.length
    have l2 := rv2.length
    have hh : X.A.in1.handled = none := I.ok.hd hc
    obtain ⟨n1, St1, D1, s1, b1, c1⟩ := draws_at (prog := X.prog) (w := X.w) hh k1 i1 a D.i1a.symm its.toArray i h1 p
    obtain ⟨n2, St2, D2, s2, b2, c2⟩ := draws_at (prog := X.prog) (w := X.w) hh k2 i2 b D.i2b.symm its2.toArray i h2 p2
    refine wpAny_pyNext_zipD2_end D.sep D1 D2 hz hTI hTO s1 s2 b1 b2 ?_ fun h' tk hk => ⟨rfl, I.turnedL (t' := tk) (ch := [z, TI, TO, i1, i2]) (fun c o hb q =>
      hk c o (fun q' => hb (by simp [q'])) (fun q' => hb (by simp [q'])) (fun q' => hb (by simp [q'])) (fun q' => hb (by simp [q'])) q) hf⟩
    rcases hend with q | q
    · exact .inl (c1 (by simp; omega))
    · exact .inr (c2 (by simp; omega))
  self := fun A i s Q E st h => wpAny_pyIter_zip st.1 h
def iobj (k : Bool) (a : Addr) : Obj := match k with
  | true => { cls := .type "tuple_iterator", data := .fields #[.ref a, .int 0 0] }
  | false => { cls := .type "list_iterator", data := .fields #[.ref a, .int 0 0] }
theorem beginsK (k : Bool) (a : Addr) (its : Array Value) : Begins (.ref a) (iobj k a) (fun h => HasK k h a its) := by
  cases k with
  | true => exact begins_tuple a its
  | false => exact begins_list a its
theorem itK_new {k : Bool} {h : Heap} {it a : Addr} (e : h.get? it = some (iobj k a)) : ItK k h it a 0 := by
  cases k with
  | true => exact ⟨_, e, rfl, rfl⟩
  | false => exact ⟨_, e, rfl, rfl⟩
def iZip2 (K : PySem.W.Frag) (ta : TA) : TI := fun σ H R => ta σ H fun vs H1 => ∃ k1 k2 a b xs ys, vs = [.ref a, .ref b] ∧ SqK k1 K H1 a xs ∧ SqK k2 K H1 b ys ∧ R (Itz2 k1 k2 K a b) H1
theorem pi_zip2 {X : Cx} {e e2 : Expr} {ta : TA} {p pos tpos : Pos} {elts : List Expr} {kk : Nat} (hg : Gl X "zip") (hm : X.mg "zip" = none) (ha : PA X [e, e2] ta)
    (hs : starEach [e, e2] X.env = (false, eval e X.env) :: starEach [e2] X.env := by rfl) (hpl : (backTo pos (starEach [e2] X.env)).any (·.1) = false := by rfl) :
    PI X (.Tuple elts kk tpos) (.Call (.Name "zip" p) [e, e2] [] pos) (iZip2 X.K ta) := by
  refine ⟨fun pins s σ H R I h => ?_⟩
  refine Call_ (ld_blt I hg hm PyProof.Rows.boot_zip (PyProof.Rows.callWith_type1 (thn (ha.run pos pins s σ H _ I h) fun us s1 ⟨vs, H1, I1, r1, q1⟩ => ?_) hs hpl))
  obtain ⟨k1, k2, a, b, xs, ys, ex, hqx, hqy, q⟩ := q1
  subst ex
  cases r1 with
  | cons r rr =>
    cases rr with
    | cons r' rr =>
      cases rr
      cases r
      cases r'
      have fresh5 : ∀ c, c ∈ [s1.heap.objs.size + 4, s1.heap.objs.size + 2, s1.heap.objs.size + 3, s1.heap.objs.size, s1.heap.objs.size + 1] → FpOk X pins H1 c := fun c hcm => by
        have e' : c = s1.heap.objs.size + 4 ∨ c = s1.heap.objs.size + 2 ∨ c = s1.heap.objs.size + 3 ∨ c = s1.heap.objs.size ∨ c = s1.heap.objs.size + 1 := by simpa using hcm
        have hle : s1.heap.objs.size ≤ c := by
          rcases e' with z | z | z | z | z
          · rw [z]; exact Nat.le_add_right _ _
          · rw [z]; exact Nat.le_add_right _ _
          · rw [z]; exact Nat.le_add_right _ _
          · rw [z]; exact Nat.le_refl _
          · rw [z]; exact Nat.le_add_right _ _
        exact I1.fpOk hle (I1.hok.fresh hle)
      obtain ⟨its, rv, p1, la⟩ := sqK_of I1 hqx
      obtain ⟨its2, rv2, p2, lb⟩ := sqK_of I1 hqy
      refine zip_begins2 (beginsK k1 a its.toArray) (beginsK k2 b its2.toArray) p1 p2 fun h' hz hTI hTO h1 h2 hsz hk => wpAny_pyIter_zip hz ?_
      have I2 : Inv X pins σ H1 { s1 with heap := h' } := I1.kept (t' := s1.toks) hk
      exact ⟨s1.heap.objs.size + 4, [s1.heap.objs.size + 4, s1.heap.objs.size + 2, s1.heap.objs.size + 3, s1.heap.objs.size, s1.heap.objs.size + 1], _, _, H1, rfl, I2, turn_zip2 (ap2_new s1.heap.objs.size a b la lb), ⟨hz, hTI, ⟨_, _, hTO⟩, itK_new h1, itK_new h2⟩, fresh5, q⟩
/-! three -/
structure Ap3 (z TI TO i1 i2 i3 a b c : Addr) : Prop where
  TIz : TI ≠ z
  TOz : TO ≠ z
  TITO : TI ≠ TO
  TIi1 : TI ≠ i1
  TIi2 : TI ≠ i2
  TIi3 : TI ≠ i3
  TOi1 : TO ≠ i1
  TOi2 : TO ≠ i2
  TOi3 : TO ≠ i3
  zi1 : z ≠ i1
  zi2 : z ≠ i2
  zi3 : z ≠ i3
  i12 : i1 ≠ i2
  i13 : i1 ≠ i3
  i23 : i2 ≠ i3
  za : z ≠ a
  zb : z ≠ b
  zc : z ≠ c
  TOa : TO ≠ a
  TOb : TO ≠ b
  TOc : TO ≠ c
  i1a : i1 ≠ a
  i1b : i1 ≠ b
  i1c : i1 ≠ c
  i2a : i2 ≠ a
  i2b : i2 ≠ b
  i2c : i2 ≠ c
  i3a : i3 ≠ a
  i3b : i3 ≠ b
  i3c : i3 ≠ c
theorem Ap3.sep {z TI TO i1 i2 i3 a b c : Addr} (D : Ap3 z TI TO i1 i2 i3 a b c) : ZipSep3 z TI TO i1 i2 i3 [i1, a] [i2, b] [i3, c] where
  TIz := D.TIz
  TOz := D.TOz
  TITO := D.TITO
  TIi1 := D.TIi1
  mem1 := by simp
  zf1 := by simp [D.zi1, D.za]
  Tf1 := by simp [D.TOi1, D.TOa]
  TIi2 := D.TIi2
  mem2 := by simp
  zf2 := by simp [D.zi2, D.zb]
  Tf2 := by simp [D.TOi2, D.TOb]
  TIi3 := D.TIi3
  mem3 := by simp
  zf3 := by simp [D.zi3, D.zc]
  Tf3 := by simp [D.TOi3, D.TOc]
  sep1_2 := by simp [D.i12, D.i1b]
  sep1_3 := by simp [D.i13, D.i1c]
  sep2_1 := by simp [D.i12.symm, D.i2a]
  sep2_3 := by simp [D.i23, D.i2c]
  sep3_1 := by simp [D.i13.symm, D.i3a]
  sep3_2 := by simp [D.i23.symm, D.i3b]
theorem ap3_new (n a b c : Addr) (ha : a < n) (hb : b < n) (hc : c < n) : Ap3 (n + 5) (n + 3) (n + 4) n (n + 1) (n + 2) a b c := by
  constructor <;> (first | (show (_ : Nat) ≠ (_ : Nat); unfold Addr at *; omega) | (intro e; have e2 : (_ : Nat) = _ := e; omega))
def Itz3 (k1 k2 k3 : Bool) (K : PySem.W.Frag) (a b c : Addr) : It :=
  ⟨fun i H => ∃ (xs ys zs : List V) (x y z : V), SqK k1 K H a xs ∧ SqK k2 K H b ys ∧ SqK k3 K H c zs ∧ xs[i]? = some x ∧ ys[i]? = some y ∧ zs[i]? = some z,
    fun i H v H' => ∃ T x y z, v = .ref T ∧ H T = none ∧ H' = upd H T (.tup [x, y, z]) ∧ (∀ xs, SqK k1 K H a xs → xs[i]? = some x) ∧ (∀ ys, SqK k2 K H b ys → ys[i]? = some y) ∧ ∀ zs, SqK k3 K H c zs → zs[i]? = some z,
    fun i H => ∃ xs ys zs : List V, SqK k1 K H a xs ∧ SqK k2 K H b ys ∧ SqK k3 K H c zs ∧ (xs.length ≤ i ∨ ys.length ≤ i ∨ zs.length ≤ i)⟩
theorem turn_zip3 {P : Program} {w : World} {K : PySem.W.Frag} {elts : List Expr} {kk : Nat} {tpos : Pos} {k1 k2 k3 : Bool} {a b d z TI TO i1 i2 i3 : Addr} (D : Ap3 z TI TO i1 i2 i3 a b d) :
    Turn P w K (.Tuple elts kk tpos) (Itz3 k1 k2 k3 K a b d) [z, TI, TO, i1, i2, i3] z (fun i h => IsZip h z TI TO .none ∧ IsTupOf3 h TI (.ref i1) (.ref i2) (.ref i3) ∧ (∃ x y v, IsTupOf3 h TO x y v) ∧ ItK k1 h i1 a i ∧ ItK k2 h i2 b i ∧ ItK k3 h i3 d i) where
  mem := by simp
  obj := fun i h st c hc => by
    obtain ⟨hz, hTI, ⟨x, y, v, hTO⟩, h1, h2, h3⟩ := st
    have e' : c = z ∨ c = TI ∨ c = TO ∨ c = i1 ∨ c = i2 ∨ c = i3 := by simpa using hc
    rcases e' with q | q | q | q | q | q
    · rw [q]; exact ⟨_, hz, fun v q => nomatch q⟩
    · rw [q]; exact ⟨_, hTI, fun v q => nomatch q⟩
    · rw [q]; exact ⟨_, hTO, fun v q => nomatch q⟩
    · rw [q]; exact h1.live
    · rw [q]; exact h2.live
    · rw [q]; exact h3.live
  keep := fun i h h' st k => by
    obtain ⟨hz, hTI, ⟨x, y, v, hTO⟩, h1, h2, h3⟩ := st
    exact ⟨k z (by simp) _ hz, k TI (by simp) _ hTI, ⟨x, y, v, k TO (by simp) _ hTO⟩, h1.at' fun o q => k i1 (by simp) o q, h2.at' fun o q => k i2 (by simp) o q, h3.at' fun o q => k i3 (by simp) o q⟩
  item := by
    intro X hP hw hK hc i pins s σ H E I hf st hg
    subst hP hw hK
    obtain ⟨hz, hTI, ⟨x0, y0, v0, hTO⟩, h1, h2, h3⟩ := st
    obtain ⟨xs, ys, vs, x, y, v, hqx, hqy, hqv, hx, hy, hv⟩ := hg
    obtain ⟨its, rv, p, _⟩ := sqK_of I hqx
    obtain ⟨its2, rv2, p2, _⟩ := sqK_of I hqy
    obtain ⟨its3, rv3, p3, _⟩ := sqK_of I hqv
    obtain ⟨u, hu, ru⟩ := rv.get hx
    obtain ⟨u2, hu2, ru2⟩ := rv2.get hy
    obtain ⟨u3, hu3, ru3⟩ := rv3.get hv
    have hzl : z < s.heap.objs.size := Heap.lt_size hz
    have hh : X.A.in1.handled = none := I.ok.hd hc
    refine wpAny_pyNext_zipD3_item D.sep (drawsK hh k1 i1 a D.i1a.symm its.toArray) (drawsK hh k2 i2 b D.i2b.symm its2.toArray) (drawsK hh k3 i3 d D.i3c.symm its3.toArray) hz hTI hTO ⟨h1, p⟩ ⟨h2, p2⟩ ⟨h3, p3⟩ ((by simpa using (List.getElem?_eq_some_iff.mp hu).1)) ((by simpa using (List.getElem?_eq_some_iff.mp hu2).1)) ((by simpa using (List.getElem?_eq_some_iff.mp hu3).1)) fun x1 x2 x3 h' tk g1 g2 g3 z' TO' d1 d2 d3 hT hsz hk => ?_
    have e1 : x1 = u := by
      have : its[i]? = some x1 := by simpa using g1
      rw [hu] at this; cases this; rfl
    have e2 : x2 = u2 := by
      have : its2[i]? = some x2 := by simpa using g2
      rw [hu2] at this; cases this; rfl
    have e3 : x3 = u3 := by
      have : its3[i]? = some x3 := by simpa using g3
      rw [hu3] at this; cases this; rfl
    subst e1 e2 e3
    refine ⟨_, rfl, wpAny_letOwnedTupleGo_zip (s := { s with heap := h', toks := tk }) z' fun h'' z'' sb => ?_⟩
    have hT2 : h''.get? s.heap.objs.size = some { cls := .type "tuple", data := .seq #[x1, x2, x3] } := (sb.2 _ (Nat.ne_of_gt hzl)).trans hT
    have new : ObjOk X.prog X.w (upd H s.heap.objs.size (.tup [x, y, v])) h'' s.heap.objs.size (.tup [x, y, v]) :=
      ⟨by show 3 ≤ sizeLine; decide, [x1, x2, x3], .cons ru (.cons ru2 (.cons ru3 .nil)), ⟨_, hT2, rfl, _, rfl⟩⟩
    have I1 : Inv X pins σ (upd H s.heap.objs.size (.tup [x, y, v])) { s with heap := h'', toks := tk } :=
      I.turnedNew (t' := tk) (ch := [z, TI, TO, i1, i2, i3]) (fun c o hb q => (sb.2 c (fun q' => hb (by simp [q']))).trans (hk c o (fun q' => hb (by simp [q'])) (fun q' => hb (by simp [q'])) (fun q' => hb (by simp [q'])) (fun q' => hb (by simp [q'])) (fun q' => hb (by simp [q'])) q)) hf (Nat.le_refl _) new
    refine ⟨.ref s.heap.objs.size, _, I1, rfl, ⟨_, x, y, v, rfl, I.hok.fresh (Nat.le_refl _), rfl, fun l hl => by rw [sqK_inj I hl hqx]; exact hx, fun l hl => by rw [sqK_inj I hl hqy]; exact hy, fun l hl => by rw [sqK_inj I hl hqv]; exact hv⟩, ⟨z'', ?_, ⟨x1, x2, x3, ?_⟩, ?_, ?_, ?_⟩, fun c hcm => ?_⟩
    · exact (sb.2 _ D.TIz).trans (hk _ _ D.TIz D.TITO D.TIi1 D.TIi2 D.TIi3 hTI)
    · exact (sb.2 _ D.TOz).trans TO'
    · exact d1.1.at' fun o q => (sb.2 _ D.zi1.symm).trans q
    · exact d2.1.at' fun o q => (sb.2 _ D.zi2.symm).trans q
    · exact d3.1.at' fun o q => (sb.2 _ D.zi3.symm).trans q
    · have hlt : c < s.heap.objs.size := by
        have e' : c = z ∨ c = TI ∨ c = TO ∨ c = i1 ∨ c = i2 ∨ c = i3 := by simpa using hcm
        rcases e' with q | q | q | q | q | q
        · rw [q]; exact hzl
        · rw [q]; exact Heap.lt_size hTI
        · rw [q]; exact Heap.lt_size hTO
        · rw [q]; obtain ⟨_, e1, _⟩ := h1.live; exact Heap.lt_size e1
        · rw [q]; obtain ⟨_, e2, _⟩ := h2.live; exact Heap.lt_size e2
        · rw [q]; obtain ⟨_, e3, _⟩ := h3.live; exact Heap.lt_size e3
      rw [upd_ne (Nat.ne_of_lt hlt)]
      exact (hf c hcm).1
  done := by
    intro X hP hw hK hc i pins s σ H E I hf st hg
    subst hP hw hK
    obtain ⟨hz, hTI, ⟨x0, y0, v0, hTO⟩, h1, h2, h3⟩ := st
    obtain ⟨xs, ys, vs, hqx, hqy, hqv, hend⟩ := hg
    obtain ⟨its, rv, p, _⟩ := sqK_of I hqx
    obtain ⟨its2, rv2, p2, _⟩ := sqK_of I hqy
    obtain ⟨its3, rv3, p3, _⟩ := sqK_of I hqv
    have l1 := rv.length
    have l2 := rv2.length
    have l3 := rv3.length
    have hh : X.A.in1.handled = none := I.ok.hd hc
    obtain ⟨n1, St1, D1, s1, b1, c1⟩ := draws_at (prog := X.prog) (w := X.w) hh k1 i1 a D.i1a.symm its.toArray i h1 p
    obtain ⟨n2, St2, D2, s2, b2, c2⟩ := draws_at (prog := X.prog) (w := X.w) hh k2 i2 b D.i2b.symm its2.toArray i h2 p2
    obtain ⟨n3, St3, D3, s3, b3, c3⟩ := draws_at (prog := X.prog) (w := X.w) hh k3 i3 d D.i3c.symm its3.toArray i h3 p3
    refine wpAny_pyNext_zipD3_end D.sep D1 D2 D3 hz hTI hTO s1 s2 s3 b1 b2 b3 ?_ fun h' tk hk => ⟨rfl, I.turnedL (t' := tk) (ch := [z, TI, TO, i1, i2, i3]) (fun c o hb q =>
      hk c o (fun q' => hb (by simp [q'])) (fun q' => hb (by simp [q'])) (fun q' => hb (by simp [q'])) (fun q' => hb (by simp [q'])) (fun q' => hb (by simp [q'])) q) hf⟩
    rcases hend with q | q | q
    · exact .inl (c1 (by simp; omega))
    · exact .inr (.inl (c2 (by simp; omega)))
    · exact .inr (.inr (c3 (by simp; omega)))
  self := fun A i s Q E st h => wpAny_pyIter_zip st.1 h
def iZip3 (K : PySem.W.Frag) (ta : TA) : TI := fun σ H R => ta σ H fun vs H1 => ∃ k1 k2 k3 a b c xs ys zs, vs = [.ref a, .ref b, .ref c] ∧ SqK k1 K H1 a xs ∧ SqK k2 K H1 b ys ∧ SqK k3 K H1 c zs ∧ R (Itz3 k1 k2 k3 K a b c) H1
theorem pi_zip3 {X : Cx} {e e2 e3 : Expr} {ta : TA} {p pos tpos : Pos} {elts : List Expr} {kk : Nat} (hg : Gl X "zip") (hm : X.mg "zip" = none) (ha : PA X [e, e2, e3] ta)
    (hs : starEach [e, e2, e3] X.env = (false, eval e X.env) :: starEach [e2, e3] X.env := by rfl) (hpl : (backTo pos (starEach [e2, e3] X.env)).any (·.1) = false := by rfl) :
    PI X (.Tuple elts kk tpos) (.Call (.Name "zip" p) [e, e2, e3] [] pos) (iZip3 X.K ta) := by
  refine ⟨fun pins s σ H R I h => ?_⟩
  refine Call_ (ld_blt I hg hm PyProof.Rows.boot_zip (PyProof.Rows.callWith_type1 (thn (ha.run pos pins s σ H _ I h) fun us s1 ⟨vs, H1, I1, r1, q1⟩ => ?_) hs hpl))
  obtain ⟨k1, k2, k3, a, b, c, xs, ys, zs, ex, hqx, hqy, hqz, q⟩ := q1
  subst ex
  cases r1 with
  | cons r rr =>
    cases rr with
    | cons r' rr =>
      cases rr with
      | cons r'' rr =>
        cases rr
        cases r
        cases r'
        cases r''
        have fresh6 : ∀ c, c ∈ [s1.heap.objs.size + 5, s1.heap.objs.size + 3, s1.heap.objs.size + 4, s1.heap.objs.size, s1.heap.objs.size + 1, s1.heap.objs.size + 2] → FpOk X pins H1 c := fun c hcm => by
          have e' : c = s1.heap.objs.size + 5 ∨ c = s1.heap.objs.size + 3 ∨ c = s1.heap.objs.size + 4 ∨ c = s1.heap.objs.size ∨ c = s1.heap.objs.size + 1 ∨ c = s1.heap.objs.size + 2 := by simpa using hcm
          have hle : s1.heap.objs.size ≤ c := by
            rcases e' with z | z | z | z | z | z
            · rw [z]; exact Nat.le_add_right _ _
            · rw [z]; exact Nat.le_add_right _ _
            · rw [z]; exact Nat.le_add_right _ _
            · rw [z]; exact Nat.le_refl _
            · rw [z]; exact Nat.le_add_right _ _
            · rw [z]; exact Nat.le_add_right _ _
          exact I1.fpOk hle (I1.hok.fresh hle)
        obtain ⟨its, rv, p1, la⟩ := sqK_of I1 hqx
        obtain ⟨its2, rv2, p2, lb⟩ := sqK_of I1 hqy
        obtain ⟨its3, rv3, p3, lc⟩ := sqK_of I1 hqz
        refine zip_begins3 (beginsK k1 a its.toArray) (beginsK k2 b its2.toArray) (beginsK k3 c its3.toArray) p1 p2 p3 fun h' hz hTI hTO h1 h2 h3 hsz hk => wpAny_pyIter_zip hz ?_
        have I2 : Inv X pins σ H1 { s1 with heap := h' } := I1.kept (t' := s1.toks) hk
        exact ⟨s1.heap.objs.size + 5, [s1.heap.objs.size + 5, s1.heap.objs.size + 3, s1.heap.objs.size + 4, s1.heap.objs.size, s1.heap.objs.size + 1, s1.heap.objs.size + 2], _, _, H1, rfl, I2, turn_zip3 (ap3_new s1.heap.objs.size a b c la lb lc), ⟨hz, hTI, ⟨_, _, _, hTO⟩, itK_new h1, itK_new h2, itK_new h3⟩, fresh6, q⟩
/-! the layer -/
/-- the items of a list or a tuple, and what must stand -/
def rdk (t : T) (G : GH) : Option (Bool × List W × Src) := match rdl t G with
  | some ws => some (false, ws, srcOf t ws)
  | none => match rdt t with
    | some ws => some (true, ws, [])
    | none => none
section
variable {X : Cx} {ca : Nat → Addr} {Wx : WX} {pos : Pos} {tg : Expr}
theorem rdk_of {K : PySem.W.Frag} {ρ : List Addr} {G : GH} {H H0 : Hp} {v : V} {t : T} {k : Bool} {ws : List W} {src : Src} (r : Rep K ca ρ G H) (q : RelT K ca H0 ρ H v t) (h : rdk t G = some (k, ws, src)) :
    ∃ a vs, v = .ref a ∧ SqK k K H a vs ∧ RelWs K ca ρ H vs ws ∧ ∀ ρ' (G' : GH) H', Ext ρ H ρ' H' → Rep K ca ρ' G' H' → still src G' = true → ∃ vs, SqK k K H' a vs ∧ RelWs K ca ρ' H' vs ws := by
  unfold rdk at h
  cases e : rdl t G with
  | some us =>
    rw [e] at h
    cases h
    obtain ⟨a, vs, rfl, hv, qs⟩ := rdl_of r q e
    refine ⟨a, vs, rfl, hv, qs, fun ρ' G' H' x r' hs => ?_⟩
    obtain ⟨b, vs2, e2, hv2, qs2⟩ := rdl_later q e r x r' hs
    cases e2
    exact ⟨vs2, hv2, qs2⟩
  | none =>
    rw [e] at h
    cases e1 : rdt t with
    | none => rw [e1] at h; cases h
    | some us =>
      rw [e1] at h
      cases h
      obtain ⟨a, vs, rfl, hv, qs⟩ := rdt_of q e1
      exact ⟨a, vs, rfl, hv, qs, fun ρ' G' H' x r' hs => ⟨vs, (r.stay x).sqT hv, relWs_ext qs r x⟩⟩
def iterZm (ts : List T) (G : GH) : R (List W × Src) := match ts with
  | [t, u] => match rdk t G, rdk u G with
    | some (_, ws, s1), some (_, us, s2) => .ok (zipW ws us, s1 ++ s2) G
    | _, _ => .bad
  | _ => .bad
def zip3W (ws us xs : List W) : List W := (ws.zip (us.zip xs)).map fun p => .tup [p.1, p.2.1, p.2.2]
def iterZ3 (ts : List T) (G : GH) : R (List W × Src) := match ts with
  | [t, u, v] => match rdk t G, rdk u G, rdk v G with
    | some (_, ws, s1), some (_, us, s2), some (_, xs, s3) => .ok (zip3W ws us xs, s1 ++ (s2 ++ s3)) G
    | _, _, _ => .bad
  | _ => .bad
theorem still_l {a b : Src} {G : GH} (h : still (a ++ b) G = true) : still a G = true := still_iff.mpr fun p hp => still_iff.mp h p (List.mem_append_left _ hp)
theorem still_r {a b : Src} {G : GH} (h : still (a ++ b) G = true) : still b G = true := still_iff.mpr fun p hp => still_iff.mp h p (List.mem_append_right _ hp)
theorem tri_new {K : PySem.W.Frag} {ρ : List Addr} {G : GH} {H : Hp} {p : Addr} {x y z : V} {w u t : W} (r : Rep K ca ρ G H) (hp : H p = none) (q : RelW K ca ρ H x w) (q2 : RelW K ca ρ H y u) (q3 : RelW K ca ρ H z t) :
    Ext ρ H ρ (upd H p (.tup [x, y, z])) ∧ Rep K ca ρ G (upd H p (.tup [x, y, z])) ∧ RelW K ca ρ (upd H p (.tup [x, y, z])) (.ref p) (.tup [w, u, t]) :=
  ⟨.laid hp, r.laid hp, RelW.tup' (.of upd_same) (.cons (q.ext r (.laid hp)) (.cons (q2.ext r (.laid hp)) (.cons (q3.ext r (.laid hp)) .nil)))⟩
theorem itz2_ok {K : PySem.W.Frag} {ρ : List Addr} {H : Hp} {k1 k2 : Bool} {a b : Addr} {ws us : List W} {s1 s2 : Src}
    (h1 : ∀ ρ' (G' : GH) H', Ext ρ H ρ' H' → Rep K ca ρ' G' H' → still s1 G' = true → ∃ vs, SqK k1 K H' a vs ∧ RelWs K ca ρ' H' vs ws)
    (h2 : ∀ ρ' (G' : GH) H', Ext ρ H ρ' H' → Rep K ca ρ' G' H' → still s2 G' = true → ∃ vs, SqK k2 K H' b vs ∧ RelWs K ca ρ' H' vs us) : ItOk K ca (Itz2 k1 k2 K a b) (zipW ws us) (s1 ++ s2) ρ H := by
  intro i ρ' G' H' x r' hs
  obtain ⟨vs, hv, qs⟩ := h1 ρ' G' H' x r' (still_l hs)
  obtain ⟨vs2, hv2, qs2⟩ := h2 ρ' G' H' x r' (still_r hs)
  have hl : (zipW ws us).length = min ws.length us.length := by unfold zipW; simp
  refine ⟨fun w hw => ?_, fun hl' => ⟨vs, vs2, hv, hv2, by rw [qs.length, qs2.length]; omega⟩⟩
  unfold zipW at hw
  rw [List.getElem?_map] at hw
  cases e0 : (ws.zip us)[i]? with
  | none => rw [e0] at hw; cases hw
  | some p =>
    rw [e0] at hw
    have hw' : W.tup [p.1, p.2] = w := by simpa using hw
    obtain ⟨hi1, hi2⟩ := List.getElem?_zip_eq_some.mp e0
    obtain ⟨v, e1, q1⟩ := relWs_get qs hi1
    obtain ⟨v2, e12, q12⟩ := relWs_get qs2 hi2
    refine ⟨⟨vs, vs2, v, v2, hv, hv2, e1, e12⟩, fun y H2 hy => ?_⟩
    obtain ⟨T, z, z2, rfl, hT, rfl, hy, hy2⟩ := hy
    have e2 := hy vs hv
    rw [e1] at e2
    cases e2
    have e22 := hy2 vs2 hv2
    rw [e12] at e22
    cases e22
    rw [← hw']
    exact pair_new r' hT q1 q12
theorem itz3_ok {K : PySem.W.Frag} {ρ : List Addr} {H : Hp} {k1 k2 k3 : Bool} {a b c : Addr} {ws us xs : List W} {s1 s2 s3 : Src}
    (h1 : ∀ ρ' (G' : GH) H', Ext ρ H ρ' H' → Rep K ca ρ' G' H' → still s1 G' = true → ∃ vs, SqK k1 K H' a vs ∧ RelWs K ca ρ' H' vs ws)
    (h2 : ∀ ρ' (G' : GH) H', Ext ρ H ρ' H' → Rep K ca ρ' G' H' → still s2 G' = true → ∃ vs, SqK k2 K H' b vs ∧ RelWs K ca ρ' H' vs us)
    (h3 : ∀ ρ' (G' : GH) H', Ext ρ H ρ' H' → Rep K ca ρ' G' H' → still s3 G' = true → ∃ vs, SqK k3 K H' c vs ∧ RelWs K ca ρ' H' vs xs) : ItOk K ca (Itz3 k1 k2 k3 K a b c) (zip3W ws us xs) (s1 ++ (s2 ++ s3)) ρ H := by
  intro i ρ' G' H' x r' hs
  obtain ⟨vs, hv, qs⟩ := h1 ρ' G' H' x r' (still_l hs)
  obtain ⟨vs2, hv2, qs2⟩ := h2 ρ' G' H' x r' (still_l (still_r hs))
  obtain ⟨vs3, hv3, qs3⟩ := h3 ρ' G' H' x r' (still_r (still_r hs))
  have hl : (zip3W ws us xs).length = min ws.length (min us.length xs.length) := by unfold zip3W; simp
  refine ⟨fun w hw => ?_, fun hl' => ⟨vs, vs2, vs3, hv, hv2, hv3, by rw [qs.length, qs2.length, qs3.length]; omega⟩⟩
  unfold zip3W at hw
  rw [List.getElem?_map] at hw
  cases e0 : (ws.zip (us.zip xs))[i]? with
  | none => rw [e0] at hw; cases hw
  | some p =>
    rw [e0] at hw
    have hw' : W.tup [p.1, p.2.1, p.2.2] = w := by simpa using hw
    obtain ⟨hi1, hi'⟩ := List.getElem?_zip_eq_some.mp e0
    obtain ⟨hi2, hi3⟩ := List.getElem?_zip_eq_some.mp hi'
    obtain ⟨v, e1, q1⟩ := relWs_get qs hi1
    obtain ⟨v2, e12, q12⟩ := relWs_get qs2 hi2
    obtain ⟨v3, e13, q13⟩ := relWs_get qs3 hi3
    refine ⟨⟨vs, vs2, vs3, v, v2, v3, hv, hv2, hv3, e1, e12, e13⟩, fun y H2 hy => ?_⟩
    obtain ⟨T, z, z2, z3, rfl, hT, rfl, hy, hy2, hy3⟩ := hy
    have e2 := hy vs hv
    rw [e1] at e2
    cases e2
    have e22 := hy2 vs2 hv2
    rw [e12] at e22
    cases e22
    have e23 := hy3 vs3 hv3
    rw [e13] at e23
    cases e23
    rw [← hw']
    exact tri_new r' hT q1 q12 q13
theorem relTs_three {K : PySem.W.Frag} {ρ : List Addr} {H0 H : Hp} {vs : List V} {t u w : T} (q : RelTs K ca H0 ρ H vs [t, u, w]) : ∃ v z y, vs = [v, z, y] ∧ RelT K ca H0 ρ H v t ∧ RelT K ca H0 ρ H z u ∧ RelT K ca H0 ρ H y w := by
  cases q with
  | cons q t =>
    obtain ⟨z, y, rfl, q2, q3⟩ := relTs_two t
    exact ⟨_, _, _, rfl, q, q2, q3⟩
theorem i_zipm {e e2 : Expr} {elts : List Expr} {kk : Nat} {p tpos : Pos} {m : M (List T)} (hg : Gl X "zip") (hm : X.mg "zip" = none) (ha : PA X [e, e2] (tB X.K ca Wx m)) (hs : starEach [e, e2] X.env = (false, eval e X.env) :: starEach [e2] X.env := by rfl) (hpl : (backTo pos (starEach [e2] X.env)).any (·.1) = false := by rfl) :
    PI X (.Tuple elts kk tpos) (.Call (.Name "zip" p) [e, e2] [] pos) (tI X.K ca Wx (miB iterZm m)) := by
  refine PI.weak (pi_zip2 hg hm ha hs hpl) fun σ H R ⟨ρ, G, τ, r, sl, h⟩ => ?_
  refine tB.seq r sl h fun ts G1 ρ1 H1 vs x1 r1 s1 q1 h1 => ?_
  unfold iterZm at h1
  split at h1
  · rename_i t u
    obtain ⟨v, v2, rfl, qv, qu⟩ := relTs_two q1
    split at h1
    · rename_i k1 ws z1 k2 us z2 e0 e1
      obtain ⟨a, vs, rfl, hv, qs, l1⟩ := rdk_of r1 qv e0
      obtain ⟨b, vs2, rfl, hv2, qs2, l2⟩ := rdk_of r1 qu e1
      exact ⟨k1, k2, a, b, vs, vs2, rfl, hv, hv2, h1 ρ1 H1 .refl r1 _ (itz2_ok l1 l2)⟩
    · exact h1.elim
  · exact h1.elim
theorem i_zip3 {e e2 e3 : Expr} {elts : List Expr} {kk : Nat} {p tpos : Pos} {m : M (List T)} (hg : Gl X "zip") (hm : X.mg "zip" = none) (ha : PA X [e, e2, e3] (tB X.K ca Wx m)) (hs : starEach [e, e2, e3] X.env = (false, eval e X.env) :: starEach [e2, e3] X.env := by rfl) (hpl : (backTo pos (starEach [e2, e3] X.env)).any (·.1) = false := by rfl) :
    PI X (.Tuple elts kk tpos) (.Call (.Name "zip" p) [e, e2, e3] [] pos) (tI X.K ca Wx (miB iterZ3 m)) := by
  refine PI.weak (pi_zip3 hg hm ha hs hpl) fun σ H R ⟨ρ, G, τ, r, sl, h⟩ => ?_
  refine tB.seq r sl h fun ts G1 ρ1 H1 vs x1 r1 s1 q1 h1 => ?_
  unfold iterZ3 at h1
  split at h1
  · rename_i t u w
    obtain ⟨v, v2, v3, rfl, qv, qu, qw⟩ := relTs_three q1
    split at h1
    · rename_i k1 ws z1 k2 us z2 k3 xs z3 e0 e1 e2
      obtain ⟨a, vs, rfl, hv, qs, l1⟩ := rdk_of r1 qv e0
      obtain ⟨b, vs2, rfl, hv2, qs2, l2⟩ := rdk_of r1 qu e1
      obtain ⟨c, vs3, rfl, hv3, qs3, l3⟩ := rdk_of r1 qw e2
      exact ⟨k1, k2, k3, a, b, c, vs, vs2, vs3, rfl, hv, hv2, hv3, h1 ρ1 H1 .refl r1 _ (itz3_ok l1 l2 l3)⟩
    · exact h1.elim
  · exact h1.elim
end
end Sy
set_option Elab.async false
set_option linter.all false
set_option maxRecDepth 100000
set_option maxHeartbeats 4000000
namespace Sy
open PySem PySem.Spec PyProof.Rows L2
theorem fz_script {K : PySem.W.Frag} {H : Hp} {a : Addr} {vs : List V} (hO : Only H) (h : SqL K H a vs) : FzL K H a vs := by
  rcases h with h | h
  · rcases h with h | h
    · rcases hO a with e | ⟨o, xs, e⟩ <;> (rw [h] at e; cases e)
    · exact .inl h
  · exact .inr h
theorem relWs_ints {K : PySem.W.Frag} {ca : Nat → Addr} {ρ : List Addr} {H : Hp} : ∀ ns : List Int, RelWs K ca ρ H (ns.map V.int) (ns.map W.int)
  | [] => .nil
  | n :: ns => .cons (.int n) (relWs_ints ns)
theorem RelW.frl' {K : PySem.W.Frag} {ca : Nat → Addr} {ρ : List Addr} {H : Hp} {a : Addr} {vs : List V} {ws : List W} (hs : FzL K H a vs) (h : RelWs K ca ρ H vs ws) : RelW K ca ρ H (.ref a) (.frl ws) :=
  .frl hs h.length fun i v w e1 e2 => paired_get h i v w e1 e2
/-- a def as it stands behind the top -/
structure DefAt (K : PySem.W.Frag) (x : Str) (st : Stmt) (f : Addr) : Prop where
  ex : ∃ (oc : Value) (od : Option Addr) (kV doc pm : Value) (an : Option Addr) (cdv ct : Value) (osl : Array (Option Value)),
    K.lookup f = some ⟨oc, od, .func (PySem.W.fnOf x x (defArgs st) (defBody st) (defScope st) .none kV doc pm an cdv ct), osl⟩ ∧ PySem.W.codeIn K cdv x = true ∧ PySem.W.keepIn K (.ref f) = true
theorem defAt_mk {K : PySem.W.Frag} {x : Str} {st : Stmt} {f : Addr} {oc : Value} {od an : Option Addr} {osl : Array (Option Value)} {kV doc pm cdv ct : Value} (l : K.lookup f = some ⟨oc, od, .func (PySem.W.fnOf x x (defArgs st) (defBody st) (defScope st) .none kV doc pm an cdv ct), osl⟩)
    (c : PySem.W.codeIn K cdv x = true) (k : PySem.W.keepIn K (.ref f) = true) : DefAt K x st f := ⟨_, _, _, _, _, _, _, _, _, l, c, k⟩
/-- .. with defaults, a tuple of them -/
structure DefAtD (K : PySem.W.Frag) (x : Str) (st : Stmt) (f : Addr) (dvs : List V) : Prop where
  ex : ∃ (oc : Value) (od : Option Addr) (T : Addr) (kV doc pm : Value) (an : Option Addr) (cdv ct : Value) (osl : Array (Option Value)) (o : Obj) (its : List Value) (n : Nat),
    K.lookup f = some ⟨oc, od, .func (PySem.W.fnOf x x (defArgs st) (defBody st) (defScope st) (.ref T) kV doc pm an cdv ct), osl⟩ ∧ PySem.W.codeIn K cdv x = true ∧ PySem.W.keepIn K (.ref f) = true ∧ K.lookup T = some o ∧ o.data = .seq its.toArray n ∧ Vals dvs its
theorem defAtD_mk {K : PySem.W.Frag} {x : Str} {st : Stmt} {f T : Addr} {oc : Value} {od an : Option Addr} {osl : Array (Option Value)} {kV doc pm cdv ct : Value} {o : Obj} {its : List Value} {n : Nat} {dvs : List V}
    (l : K.lookup f = some ⟨oc, od, .func (PySem.W.fnOf x x (defArgs st) (defBody st) (defScope st) (.ref T) kV doc pm an cdv ct), osl⟩)
    (c : PySem.W.codeIn K cdv x = true) (k : PySem.W.keepIn K (.ref f) = true) (lT : K.lookup T = some o) (hd : o.data = .seq its.toArray n) (hv : Vals dvs its) : DefAtD K x st f dvs := ⟨_, _, _, _, _, _, _, _, _, _, _, _, _, l, c, k, lT, hd, hv⟩
theorem DefAt.fun {K : PySem.W.Frag} {x : Str} {st : Stmt} {f : Addr} (D : DefAt K x st f) : ∃ fd, FunD K x x (defArgs st) (defBody st) (defScope st) [] [] f fd := by
  obtain ⟨oc, od, kV, doc, pm, an, cdv, ct, osl, l, c, k⟩ := D.ex
  exact ⟨_, ⟨_, _, _, _, _, _, _, _, _, _, rfl, l, c, .inl ⟨rfl, rfl⟩, .inl rfl⟩, k⟩
theorem DefAtD.fun {K : PySem.W.Frag} {x : Str} {st : Stmt} {f : Addr} {dvs : List V} (D : DefAtD K x st f dvs) (hn : dvs ≠ []) : ∃ fd, FunD K x x (defArgs st) (defBody st) (defScope st) dvs [] f fd := by
  obtain ⟨oc, od, T, kV, doc, pm, an, cdv, ct, osl, o, its, n, l, c, k, lT, hd, hv⟩ := D.ex
  exact ⟨_, ⟨_, _, _, _, _, _, _, _, _, _, rfl, l, c, .inr ⟨hn, T, o, its, n, rfl, lT, hd, hv⟩, .inl rfl⟩, k⟩
section
variable {P : Program} {w : World} {K : PySem.W.Frag} {mg : Str → Option Value} {base : Heap} {ca : Nat → Addr}
theorem callable_mk {k : Nat} {x : Str} {ps : List Str} {m : List W → GH → R W} {f : Addr} {fd : FuncData} (hm : mg x = some (.ref f)) (kp : PySem.W.keepIn K (.ref f) = true) (b : Binds K fd ps []) (F : FnOk P w K mg base (L2N.CX P w) k f fd ps (spM K ca ps.length m)) :
    Callable P w K mg base ca k x ps [] m := ⟨f, fd, [], [], hm, kp, b, .nil, fun _ _ => .nil, F⟩
theorem callable_mkD {k : Nat} {x : Str} {ps : List Str} {m : List W → GH → R W} {f : Addr} {fd : FuncData} {dvs : List V} {dws : List W} (hm : mg x = some (.ref f)) (kp : PySem.W.keepIn K (.ref f) = true) (b : ∃ ds, Vals dvs ds ∧ Binds K fd ps ds) (hw : ∀ ρ H, RelWs K ca ρ H dvs dws) (F : FnOk P w K mg base (L2N.CX P w) k f fd ps (spM K ca ps.length m)) :
    Callable P w K mg base ca k x ps dws m := by
  obtain ⟨ds, hv, b⟩ := b
  exact ⟨f, fd, dvs, ds, hm, kp, b, hv, hw, F⟩
/-- all parameters written, a def with defaults -/
theorem bindsFull {x qual : Str} {params : Arguments} {body : List Stmt} {scope : Scope} {dvs : List V} {f : Addr} {fd : FuncData} {ps : List Str} (F : FunD K x qual params body scope dvs [] f fd)
    (h : ∀ (dV kV doc pm : Value) (an : Option Addr) (cdv ct : Value) (us : List Value), us.length = ps.length → bindArgs (PySem.W.fnOf x qual params body scope dV kV doc pm an cdv ct) ⟨us, []⟩ = pure (ps.zip us)) : Binds K fd ps [] := by
  obtain ⟨oc, od, dV, kV, doc, pm, an, cdv, ct, osl, rfl, _, _, _, _⟩ := F.ex
  exact .all (h dV kV doc pm an cdv ct)
theorem konW_int {x : Str} {i : Int} {t : Tok} (h : mg x = some (.int i t)) : KonW K mg ca x (.int i) := ⟨_, .int i, h, ⟨t, rfl⟩, fun _ _ => .int i⟩
theorem konW_str {x z : Str} {t : Tok} (h : mg x = some (.str z t)) : KonW K mg ca x (.str z) := ⟨_, .str z, h, ⟨t, rfl⟩, fun _ _ => .str z⟩
end
/-- the end of a law -/
theorem law_end {l : PySem.W.OpenLaw} {k : Nat} {q : Program} {loose : List Str} {XP : (Str → Option Value) → Heap → Prop} {YP : World → Heap → Prop} {d : DefRec} {K : Params → PySem.W.Frag} {x : Str} {ca : Nat → Addr} {m : List W → GH → R W}
    (hn : l.most = some 63) (hdf : d.params.defaults = []) (hr : Room k callerA) (hY : ∀ (w : World) (h : Heap), YP w h → (K w.params).In h)
    (F : ∀ (w : World) (mg : Str → Option Value) (fa : Addr) (h : Heap), (K w.params).In h → h.Ns mainGlobals mg → mg d.name = some (.ref fa) →
      ∃ fd : FuncData, (∀ (s : Shared) (u : Value), BindsTo s fd ⟨[u], []⟩ [(x, u)]) ∧ ∀ base : Heap, (K w.params).In base → base.Ns mainGlobals mg → FnOk l.prog w (K w.params) mg base (L2N.CX l.prog w) k fa fd [x] (spM (K w.params) ca 1 m))
    (hm : ∀ ns : List Int, ns.length ≤ 63 → (∀ z ∈ ns, Builtin.Int.intBits z ≤ 1048576) → ∃ G, m [.frl (ns.map W.int)] [] = .ok (.bl true) G) :
    PySem.W.WalkO q loose XP YP l.row.toRowW d [] (fun f vs => PySem.call f vs) :=
  L2.walk_ofB (n := 63) (CX := fun w => L2N.CX l.prog w) (sp := fun w => spM (K w.params) ca 1 m) hn (by rw [sizeLine_eq]; decide) hdf hr hY F
    (fun w H a ns hl hb hO hS => by
      obtain ⟨G, e⟩ := hm ns hl hb
      refine ⟨rfl, [], [], [.frl (ns.map W.int)], ⟨rfl, List.nodup_nil, fun n a o h => by simp at h⟩, .cons (RelW.frl' (fz_script hO hS) (relWs_ints ns)) .nil, ?_⟩
      rw [e]
      exact fun ρ' H' _ _ v q => by cases q; rfl)
    fun w H s e s' h => by obtain ⟨_, _, _, _, _, _, _, _, _, _, _, _, z⟩ := h; exact z
theorem konW_intE {K : PySem.W.Frag} {mg : Str → Option Value} {ca : Nat → Addr} {x : Str} {i : Int} (h : ∃ t, mg x = some (.int i t)) : KonW K mg ca x (.int i) := by
  obtain ⟨t, h⟩ := h
  exact konW_int h
theorem konW_strE {K : PySem.W.Frag} {mg : Str → Option Value} {ca : Nat → Addr} {x z : Str} (h : ∃ t, mg x = some (.str z t)) : KonW K mg ca x (.str z) := by
  obtain ⟨t, h⟩ := h
  exact konW_str h
/-- the end of a law whose head tells facts -/
theorem law_endE {l : PySem.W.OpenLaw} {k hn' : Nat} {q : Program} {loose : List Str} {XP : (Str → Option Value) → Heap → Prop} {fa : List He.Fa} {fn : List He.DefD} {d : DefRec} {x : Str} {ca : PySem.W.Frag → Nat → Addr} {m : List W → GH → R W}
    (hn : l.most = some 63) (hdf : d.params.defaults = []) (hr : Room k callerA)
    (F : ∀ (w : World) (mg : Str → Option Value) (fv : Addr) (h : Heap) (K : PySem.W.Frag), K.In h → He.SaysD fa fn K → h.Ns mainGlobals mg → mg d.name = some (.ref fv) →
      ∃ fd : FuncData, (∀ (s : Shared) (u : Value), BindsTo s fd ⟨[u], []⟩ [(x, u)]) ∧ ∀ base : Heap, K.In base → base.Ns mainGlobals mg → FnOk l.prog w K mg base (L2N.CX l.prog w) k fv fd [x] (spM K (ca K) 1 m))
    (hm : ∀ ns : List Int, ns.length ≤ 63 → (∀ z ∈ ns, Builtin.Int.intBits z ≤ 1048576) → ∃ G, m [.frl (ns.map W.int)] [] = .ok (.bl true) G) :
    PySem.W.WalkO q loose XP (He.hookD hn' fa fn).says l.row.toRowW d [] (fun f vs => PySem.call f vs) := by
  refine Att.attach_callB hn hdf fun w s₀ s₁ mg mb fv o pm cd doc a vs ns G Y ho hd hcd hmg hobj hints hlen hbits hg => ?_
  obtain ⟨K, KX, c⟩ := Y
  obtain ⟨fd, hb, hF⟩ := F w mg fv _ K KX c G.T.g hmg
  refine law_call KX G.T.g G.T.b G.T.builtins G.T.nolimit hg hobj hints (Nat.le_trans hlen (by rw [sizeLine_eq]; decide)) hr hF hb (fun H hO hS => ?_) fun H e s' h => ?_
  · obtain ⟨G, e⟩ := hm ns hlen hbits
    refine ⟨rfl, [], [], [.frl (ns.map W.int)], ⟨rfl, List.nodup_nil, fun n a o h => by simp at h⟩, .cons (RelW.frl' (fz_script hO hS) (relWs_ints ns)) .nil, ?_⟩
    rw [e]
    exact fun ρ' H' _ _ v q => by cases q; rfl
  · obtain ⟨_, _, _, _, _, _, _, _, _, _, _, _, z⟩ := h
    exact z
/-! facts of the top, and more of them: functions of the written part -/
abbrev AlX : Type := He.AlD × Bool
def obsX (fa : List He.Fa) (fn : List He.DefD) (fb : List (PySem.W.Frag → Bool)) (K : PySem.W.Frag) : AlX := (He.obsD fa fn K, fb.all fun f => f K)
def obsXG (n : Nat) (fa : List He.Fa) (fn : List He.DefD) (fb : List (PySem.W.Frag → Bool)) (g : Addr → Option Obj) : AlX := obsX fa fn fb (He.frG g (He.asD g n))
def hookX (n : Nat) (fa : List He.Fa) (fn : List He.DefD) (fb : List (PySem.W.Frag → Bool)) : PySem.W.Hook where
  α := AlX
  obs := fun s => obsXG n fa fn fb s.heap.get?
  val := fun _ => (He.valD fn, true)
  says := fun _ h => ∃ K : PySem.W.Frag, K.In h ∧ He.SaysD fa fn K ∧ (fb.all fun f => f K) = true
  of := fun _ s e => ⟨He.frG s.heap.get? (He.asD s.heap.get? n), He.frG_in, congrArg (fun z : AlX => z.1) e, congrArg (fun z : AlX => z.2) e⟩
  keeps := fun _ _ _ ⟨K, hK, c⟩ k => ⟨K, PySem.W.Frag.In.keeps hK k, c⟩
theorem obsXG_eq {n : Nat} {fa : List He.Fa} {fn : List He.DefD} {fb : List (PySem.W.Frag → Bool)} {g : Addr → Option Obj} {s : Shared} (h : ∀ a, g a = s.heap.get? a) : obsXG n fa fn fb g = (hookX n fa fn fb).obs s := by
  have e : g = s.heap.get? := funext h
  rw [e] <;> rfl
theorem fact_of {fb : List (PySem.W.Frag → Bool)} {K : PySem.W.Frag} (c : (fb.all fun f => f K) = true) (i : Nat) {f : PySem.W.Frag → Bool} (h : fb[i]? = some f := by rfl) : f K = true :=
  List.all_eq_true.mp c f (List.mem_of_getElem? h)
def caN (names : List Str) (K : PySem.W.Frag) (n : Nat) : Addr := He.ga K (names.getD n "")
def excCB (K : PySem.W.Frag) (D : Addr) : Bool :=
  He.eqO (PySem.W.findIn K (.ref D) "__getattribute__") (some (some (.builtin "BaseException.__getattribute__"))) && (He.eqO (PySem.W.findIn K (.ref D) "__getattr__") (some none) && (decide (PySem.W.subIn K (.ref D) (.type "BaseException") = some true) && (PySem.W.hasDictIn K D &&
  (He.eqO (PySem.W.findIn K (.ref D) "__class__") (some (some (.builtin "object.__class__"))) && (He.eqO (PySem.W.specialIn K (.builtin "object.__class__") "__get__") (some (some (.builtin "getset_descriptor.__get__"))) && (decide (PySem.W.takesIn K (.builtin "object.__class__") = some true) && decide (PySem.W.mroIn K D (.type "object") = some true)))))))
theorem excCB_ok {K : PySem.W.Frag} {D : Addr} (h : excCB K D = true) : ExcC K D := by
  unfold excCB at h
  simp only [Bool.and_eq_true] at h
  obtain ⟨h1, h2, h3, h4, h5, h6, h7, h8⟩ := h
  exact ⟨He.eqO_ok h1, He.eqO_ok h2, of_decide_eq_true h3, h4, He.eqO_ok h5, He.eqO_ok h6, of_decide_eq_true h7, of_decide_eq_true h8⟩
def itF (names : List Str) (it : ITab) (K : PySem.W.Frag) : Bool := it.all fun e => decide (PySem.W.kitOne K (.ref (caN names K e.1)) (e.2.1.val (caN names K)) = some e.2.2) && excCB K (caN names K e.1)
def xtF (names : List Str) (xt : XTab) (K : PySem.W.Frag) : Bool := xt.all fun e => decide (PySem.W.exmOne K (.ref (caN names K e.1)) (.ref (caN names K e.2.1)) = some e.2.2)
theorem exs_of {names : List Str} {it : ITab} {xt : XTab} {K : PySem.W.Frag} (h1 : itF names it K = true) (h2 : xtF names xt K = true) : Exs K (caN names K) it xt := by
  refine ⟨fun e he => ?_, fun e he => ?_⟩
  · have z := List.all_eq_true.mp h1 e he
    rw [Bool.and_eq_true] at z
    exact ⟨of_decide_eq_true z.1, excCB_ok z.2⟩
  · exact of_decide_eq_true (List.all_eq_true.mp h2 e he)
theorem exW_of {names : List Str} {K : PySem.W.Frag} {h : Heap} {mg : Str → Option Value} {x : Str} {c : Nat} (X : K.In h) (G : h.Ns mainGlobals mg) (hx : names.getD c "" = x) (g : (He.Fa.glo x).ok K = true) (e : (He.Fa.exc x).ok K = true) : ExW K mg (caN names K) x c := by
  obtain ⟨h1, h2, h3, h4⟩ := He.exc_ok e
  subst hx
  exact ⟨He.glo_ok X G g, h1, h2, h3, h4⟩
theorem cls_glo {names : List Str} {K : PySem.W.Frag} {h : Heap} {mg : Str → Option Value} {x : Str} {c : Nat} (X : K.In h) (G : h.Ns mainGlobals mg) (hx : names.getD c "" = x) (g : (He.Fa.glo x).ok K = true) : mg x = some (.ref (caN names K c)) := by
  subst hx
  exact He.glo_ok X G g
/-! constants of the top that are tuples -/
mutual
def valF (K : PySem.W.Frag) : W → Value → Bool
  | .non, v => (match v with
    | .none => true
    | _ => false)
  | .bl b, v => (match v with
    | .bool c => b == c
    | _ => false)
  | .int i, v => (match v with
    | .int j _ => decide (i = j)
    | _ => false)
  | .str x, v => (match v with
    | .str y _ => decide (x = y)
    | _ => false)
  | .tup ws, v => (match v with
    | .ref a => (match K.lookup a with
      | some ⟨.type "tuple", _, .seq its _, _⟩ => decide (its.size ≤ sizeLine) && valsF K ws its.toList
      | _ => false)
    | _ => false)
  | _, _ => false
def valsF (K : PySem.W.Frag) : List W → List Value → Bool
  | [], us => us.isEmpty
  | w :: ws, us => (match us with
    | u :: us => valF K w u && valsF K ws us
    | [] => false)
end
mutual
theorem valF_ok {K : PySem.W.Frag} {ca : Nat → Addr} : ∀ (w : W) (v : Value), valF K w v = true → ∃ x, RelV x v ∧ ∀ ρ H, RelW K ca ρ H x w
  | .non, v, h => by
    unfold valF at h
    split at h
    · exact ⟨.non, rfl, fun _ _ => .non⟩
    · cases h
  | .bl b, v, h => by
    unfold valF at h
    split at h
    · rename_i c
      have e : b = c := by simpa using h
      subst e
      exact ⟨.bl b, rfl, fun _ _ => .bl b⟩
    · cases h
  | .int i, v, h => by
    unfold valF at h
    split at h
    · rename_i j t
      have e := of_decide_eq_true h
      subst e
      exact ⟨.int i, ⟨t, rfl⟩, fun _ _ => .int i⟩
    · cases h
  | .str x, v, h => by
    unfold valF at h
    split at h
    · rename_i y t
      have e := of_decide_eq_true h
      subst e
      exact ⟨.str x, ⟨t, rfl⟩, fun _ _ => .str x⟩
    · cases h
  | .tup ws, v, h => by
    unfold valF at h
    split at h
    · rename_i a
      split at h
      · rename_i d its n sl e
        rw [Bool.and_eq_true] at h
        obtain ⟨xs, hv, hw⟩ := valsF_ok (ca := ca) ws its.toList h.2
        exact ⟨.ref a, rfl, fun ρ H => RelW.tup' (.inr ⟨_, its, n, e, rfl, rfl, of_decide_eq_true h.1, hv⟩) (hw ρ H)⟩
      · cases h
    · cases h
  | .ty _, v, h => by
    unfold valF at h
    cases h
  | .cls _, v, h => by
    unfold valF at h
    cases h
  | .exn _ _, v, h => by
    unfold valF at h
    cases h
  | .loc _, v, h => by
    unfold valF at h
    cases h
  | .frl _, v, h => by
    unfold valF at h
    cases h
theorem valsF_ok {K : PySem.W.Frag} {ca : Nat → Addr} : ∀ (ws : List W) (us : List Value), valsF K ws us = true → ∃ xs, Vals xs us ∧ ∀ ρ H, RelWs K ca ρ H xs ws
  | [], us, h => by
    unfold valsF at h
    cases us with
    | nil => exact ⟨[], .nil, fun _ _ => .nil⟩
    | cons _ _ => cases h
  | w :: ws, us, h => by
    unfold valsF at h
    cases us with
    | nil => cases h
    | cons u us =>
      dsimp only at h
      rw [Bool.and_eq_true] at h
      obtain ⟨x, h1, h2⟩ := valF_ok (ca := ca) w u h.1
      obtain ⟨xs, h3, h4⟩ := valsF_ok (ca := ca) ws us h.2
      exact ⟨x :: xs, .cons h1 h3, fun ρ H => .cons (h2 ρ H) (h4 ρ H)⟩
end
def konF (x : Str) (w : W) (K : PySem.W.Frag) : Bool := match PySem.W.nsIn K mainGlobals x with
  | some (some v) => valF K w v
  | _ => false
theorem konW_F {K : PySem.W.Frag} {h : Heap} {mg : Str → Option Value} {ca : Nat → Addr} {x : Str} {w : W} (X : K.In h) (G : h.Ns mainGlobals mg) (c : konF x w K = true) : KonW K mg ca x w := by
  unfold konF at c
  split at c
  · rename_i v e
    obtain ⟨z, h1, h2⟩ := valF_ok (ca := ca) w v c
    exact ⟨v, z, PySem.W.mg_of X G e, h1, h2⟩
  · cases c
theorem law_endX {l : PySem.W.OpenLaw} {k hn' : Nat} {q : Program} {loose : List Str} {XP : (Str → Option Value) → Heap → Prop} {fa : List He.Fa} {fn : List He.DefD} {fb : List (PySem.W.Frag → Bool)} {d : DefRec} {x : Str} {ca : PySem.W.Frag → Nat → Addr} {m : List W → GH → R W}
    (hn : l.most = some 63) (hdf : d.params.defaults = []) (hr : Room k callerA)
    (F : ∀ (w : World) (mg : Str → Option Value) (fv : Addr) (h : Heap) (K : PySem.W.Frag), K.In h → He.SaysD fa fn K → (fb.all fun f => f K) = true → h.Ns mainGlobals mg → mg d.name = some (.ref fv) →
      ∃ fd : FuncData, (∀ (s : Shared) (u : Value), BindsTo s fd ⟨[u], []⟩ [(x, u)]) ∧ ∀ base : Heap, K.In base → base.Ns mainGlobals mg → FnOk l.prog w K mg base (L2N.CX l.prog w) k fv fd [x] (spM K (ca K) 1 m))
    (hm : ∀ ns : List Int, ns.length ≤ 63 → (∀ z ∈ ns, Builtin.Int.intBits z ≤ 1048576) → ∃ G, m [.frl (ns.map W.int)] [] = .ok (.bl true) G) :
    PySem.W.WalkO q loose XP (hookX hn' fa fn fb).says l.row.toRowW d [] (fun f vs => PySem.call f vs) := by
  refine Att.attach_callB hn hdf fun w s₀ s₁ mg mb fv o pm cd doc a vs ns G Y ho hd hcd hmg hobj hints hlen hbits hg => ?_
  obtain ⟨K, KX, c, cb⟩ := Y
  obtain ⟨fd, hb, hF⟩ := F w mg fv _ K KX c cb G.T.g hmg
  refine law_call KX G.T.g G.T.b G.T.builtins G.T.nolimit hg hobj hints (Nat.le_trans hlen (by rw [sizeLine_eq]; decide)) hr hF hb (fun H hO hS => ?_) fun H e s' h => ?_
  · obtain ⟨G, e⟩ := hm ns hlen hbits
    refine ⟨rfl, [], [], [.frl (ns.map W.int)], ⟨rfl, List.nodup_nil, fun n a o h => by simp at h⟩, .cons (RelW.frl' (fz_script hO hS) (relWs_ints ns)) .nil, ?_⟩
    rw [e]
    exact fun ρ' H' _ _ v q => by cases q; rfl
  · obtain ⟨_, _, _, _, _, _, _, _, _, _, _, _, z⟩ := h
    exact z
end Sy
set_option Elab.async false
set_option linter.all false
set_option maxRecDepth 100000
set_option maxHeartbeats 4000000
namespace Sy
open PySem PySem.Spec PyProof.Rows L2

/-! the computations as equations -/
def asO : Option (Option W) → GH → R T
  | some (some w), G => .ok (.val w) G
  | _, _ => .bad
@[simp] theorem asO_ok (w : W) (G : GH) : asO (some (some w)) G = .ok (.val w) G := (rfl)
section
variable {τ : Sl} {G : GH}
@[simp] theorem mVar_at (i : Nat) : mVar i τ G = asO τ[i]? G := by
  unfold mVar asO
  cases τ[i]? with
  | none => rfl
  | some o => cases o <;> rfl
@[simp] theorem mC_at (w : W) : mC w τ G = .ok (.val w) G := (rfl)
@[simp] theorem mBin_at (f : T → T → GH → R T) (a b : M T) : mBin f a b τ G = (a τ G).bind fun x G1 => (b τ G1).bind fun y G2 => f x y G2 := (rfl)
@[simp] theorem mUn_at (f : T → GH → R T) (a : M T) : mUn f a τ G = (a τ G).bind f := (rfl)
@[simp] theorem force_val (w : W) : force (.val w) G = .ok w G := (rfl)
@[simp] theorem force_tmp (ws : List W) : force (.tmp ws) G = .ok (.loc G.length) (G ++ [.lst ws]) := (rfl)
@[simp] theorem mF_at (a : M T) : mF a τ G = (a τ G).bind force := (rfl)
@[simp] theorem mNil_at : mNil τ G = .ok [] G := (rfl)
@[simp] theorem mCons_at (a : M T) (r : M (List W)) : mCons a r τ G = ((a τ G).bind force).bind fun w G1 => (r τ G1).bind fun ws G2 => .ok (w :: ws) G2 := (rfl)
@[simp] theorem mLst_at (a : M (List W)) : mLst a τ G = (a τ G).bind fun ws G1 => if ws.length ≤ 16777216 then .ok (.tmp ws) G1 else .bad := (rfl)
@[simp] theorem mTup_at (a : M (List W)) : mTup a τ G = (a τ G).bind fun ws G1 => if ws.length ≤ 16777216 then .ok (.val (.tup ws)) G1 else .bad := (rfl)
@[simp] theorem asB_bl (b : Bool) : asB (.val (.bl b)) G = .ok b G := (rfl)
@[simp] theorem mB_at (a : M T) : mB a τ G = (a τ G).bind asB := (rfl)
@[simp] theorem mOfB_at (a : M Bool) : mOfB a τ G = (a τ G).bind fun b G1 => .ok (.val (.bl b)) G1 := (rfl)
@[simp] theorem mAnd_at (a b : M Bool) : mAnd a b τ G = (a τ G).bind fun x G1 => if x then b τ G1 else .ok false G1 := (rfl)
@[simp] theorem mOr_at (a b : M Bool) : mOr a b τ G = (a τ G).bind fun x G1 => if x then .ok true G1 else b τ G1 := (rfl)
@[simp] theorem mNot_at (a : M Bool) : mNot a τ G = (a τ G).bind fun x G1 => .ok (!x) G1 := (rfl)
@[simp] theorem mIf_at (c : M Bool) (a b : M T) : mIf c a b τ G = (c τ G).bind fun x G1 => if x then a τ G1 else b τ G1 := (rfl)
@[simp] theorem mAndV_at (a b : M T) : mAndV a b τ G = (a τ G).bind fun x G1 => (asB x G1).bind fun c G2 => if c then b τ G2 else .ok (.val (.bl false)) G2 := (rfl)
@[simp] theorem mOrV_at (a b : M T) : mOrV a b τ G = (a τ G).bind fun x G1 => (asB x G1).bind fun c G2 => if c then .ok (.val (.bl true)) G2 else b τ G2 := (rfl)
@[simp] theorem mNotV_at (a : M T) : mNotV a τ G = (a τ G).bind fun x G1 => (asB x G1).bind fun c G2 => .ok (.val (.bl (!c))) G2 := (rfl)
@[simp] theorem mCall_at (m : List W → GH → R W) (dws : List W) (ma : M (List W)) : mCall m dws ma τ G = (ma τ G).bind fun ws G1 => (m (ws ++ dws) G1).bind fun w G2 => .ok (.val w) G2 := (rfl)
@[simp] theorem mNilT_at : mNilT τ G = .ok [] G := (rfl)
@[simp] theorem mConsT_at (a : M T) (r : M (List T)) : mConsT a r τ G = (a τ G).bind fun t G1 => (r τ G1).bind fun ts G2 => .ok (t :: ts) G2 := (rfl)
@[simp] theorem mBi_at (f : List T → GH → R T) (ma : M (List T)) : mBi f ma τ G = (ma τ G).bind f := (rfl)
@[simp] theorem mMt_at (ty : T → GH → Bool) (f : T → List T → GH → R T) (mo : M T) (ma : M (List T)) : mMt ty f mo ma τ G = (mo τ G).bind fun x G1 => if ty x G1 then (ma τ G1).bind fun ts G2 => f x ts G2 else .bad := (rfl)
@[simp] theorem mMtF_at (ty : T → GH → Bool) (f : T → List W → GH → R T) (mo : M T) (ma : M (List W)) : mMtF ty f mo ma τ G = (mo τ G).bind fun x G1 => if ty x G1 then (ma τ G1).bind fun ts G2 => f x ts G2 else .bad := (rfl)
@[simp] theorem mTru_at (m : M T) : mTru m τ G = (m τ G).bind truT := (rfl)
@[simp] theorem mChain_at (f g : T → T → GH → R T) (a b c : M T) : mChain f g a b c τ G = (a τ G).bind fun x G1 => (b τ G1).bind fun y G2 => (f x y G2).bind fun z G3 => (asB z G3).bind fun k G4 => if k then (c τ G4).bind fun u G5 => g y u G5 else .ok (.val (.bl false)) G4 := (rfl)
@[simp] theorem mNoP_at : mNoP τ G = .ok none G := (rfl)
def asI : T → GH → R (Option Int)
  | .val (.int i), G => .ok (some i) G
  | _, _ => .bad
@[simp] theorem asI_int (i : Int) : asI (.val (.int i)) G = .ok (some i) G := (rfl)
@[simp] theorem mP_at (m : M T) : mP m τ G = (m τ G).bind asI := by
  unfold mP
  congr 1
  funext t G1
  cases t with
  | tmp ws => rfl
  | val w => cases w <;> rfl
@[simp] theorem mSl_at (m : M T) (l u : M (Option Int)) : mSl m l u τ G = (m τ G).bind fun t G1 => (l τ G1).bind fun lo G2 => (u τ G2).bind fun hi G3 => fSl t lo hi G3 := (rfl)
@[simp] theorem sNext_at : sNext τ G = .nx τ G := (rfl)
@[simp] theorem sSeq_at (a b : MS) : sSeq a b τ G = (a τ G).andThen b := (rfl)
@[simp] theorem sDrop_at (m : M T) : sDrop m τ G = (m τ G).toS τ fun _ G1 => .nx τ G1 := (rfl)
@[simp] theorem sRet_at (m : M T) : sRet m τ G = (mF m τ G).toS τ fun w G1 => .rt w G1 := (rfl)
@[simp] theorem sRetN_at : sRetN τ G = .rt .non G := (rfl)
@[simp] theorem sBrk_at : sBrk τ G = .bk τ G := (rfl)
@[simp] theorem sCt_at : sCt τ G = .ct τ G := (rfl)
@[simp] theorem sIf_at (c : M Bool) (a b : MS) : sIf c a b τ G = (c τ G).toS τ fun x G1 => if x then a τ G1 else b τ G1 := (rfl)
@[simp] theorem sSet_at (i : Nat) (m : M T) : sSet i m τ G = (mF m τ G).toS τ fun w G1 => .nx (τ.set i (some w)) G1 := (rfl)
@[simp] theorem sAug_at (i : Nat) (f : T → T → GH → R T) (m : M T) : sAug i f m τ G = (mVar i τ G).toS τ fun x G0 => (m τ G0).toS τ fun y G1 => ((f x y G1).bind force).toS τ fun w G2 => .nx (τ.set i (some w)) G2 := (rfl)
theorem sFor_at (m : M (List W × Src)) (g : MG) (b : MS) : sFor m g b τ G = (m τ G).toS τ fun p G1 => forL p.2 g b p.1 τ G1 := (rfl)
@[simp] theorem gN_at (i : Nat) (w : W) : gN i w τ = some (τ.set i (some w)) := (rfl)
@[simp] theorem gE_at : gE [] τ = some τ := (rfl)
@[simp] theorem gC_at (g : MG) (gs : List W → Sl → Option Sl) (w : W) (ws : List W) : gC g gs (w :: ws) τ = (g w τ).bind (gs ws) := (rfl)
@[simp] theorem gT_at (gs : List W → Sl → Option Sl) (ws : List W) : gT gs (.tup ws) τ = gs ws τ := (rfl)
def asG : Option Sl → GH → RS
  | some τ, G => .nx τ G
  | none, _ => .bad
@[simp] theorem asG_some : asG (some τ) G = .nx τ G := (rfl)
@[simp] theorem sAsg_at (g : MG) (m : M T) : sAsg g m τ G = (mF m τ G).toS τ fun w G1 => asG (g w τ) G1 := by
  unfold sAsg
  congr 1
  funext w G1
  unfold asG
  cases g w τ <;> rfl
def asTwo (τ : Sl) (i j : Nat) : List W → GH → RS
  | [w, u], G => .nx ((τ.set i (some w)).set j (some u)) G
  | _, _ => .bad
@[simp] theorem asTwo_at (i j : Nat) (w u : W) : asTwo τ i j [w, u] G = .nx ((τ.set i (some w)).set j (some u)) G := (rfl)
@[simp] theorem sPar_at (i j : Nat) (m : M (List W)) : sPar i j m τ G = (m τ G).toS τ (asTwo τ i j) := by
  unfold sPar
  congr 1
  funext ws G1
  rcases ws with _ | ⟨a, _ | ⟨b, _ | ⟨c, r⟩⟩⟩ <;> rfl
theorem miR_at (m : M (List W)) : miR m τ G = (m τ G).bind iterR := (rfl)
theorem miR2_at (m : M (List W)) : miR2 m τ G = (m τ G).bind iterR2 := (rfl)
theorem miA_at (m : M T) : miA m τ G = (m τ G).bind iterA := (rfl)
theorem miB_at (f : List T → GH → R (List W × Src)) (m : M (List T)) : miB f m τ G = (m τ G).bind f := (rfl)
def fin : RS → R W
  | .nx _ G' => .ok .non G'
  | .rt w G' => .ok w G'
  | .ex c fs _ G' => .ex c fs G'
  | _ => .bad
@[simp] theorem fin_nx : fin (.nx τ G) = .ok .non G := (rfl)
@[simp] theorem fin_rt (w : W) : fin (.rt w G) = .ok w G := (rfl)
@[simp] theorem fin_ex (c : Nat) (fs : List (Str × W)) : fin (.ex c fs τ G) = .ex c fs G := (rfl)
theorem mDef_fin (n : Nat) (b : MS) (ws : List W) : mDef n b ws G = fin (b (ws.map some ++ List.replicate (n - ws.length) none) G) := by
  unfold mDef fin
  cases b (ws.map some ++ List.replicate (n - ws.length) none) G <;> rfl
/-- a def at its arguments: what its body does from the slots -/
theorem mDef_at {n : Nat} {b : MS} {ws : List W} (τ : Sl) {r : RS} (hτ : ws.map some ++ List.replicate (n - ws.length) none = τ) (h : b τ G = r) : mDef n b ws G = fin r := by
  rw [mDef_fin, hτ, h]
theorem mDef_ok {n : Nat} {b : MS} {ws : List W} (τ : Sl) {w : W} {G' : GH} (h : b τ G = .rt w G') (hτ : ws.map some ++ List.replicate (n - ws.length) none = τ := by rfl) : mDef n b ws G = .ok w G' := by
  rw [mDef_fin, hτ, h]; rfl
end

/-! operations -/
section
variable {G : GH}
@[simp] theorem fAdd_int (i j : Int) : fAdd (.val (.int i)) (.val (.int j)) G = .ok (.val (.int (i + j))) G := (rfl)
@[simp] theorem fAugAdd_int (i j : Int) : fAugAdd (.val (.int i)) (.val (.int j)) G = .ok (.val (.int (i + j))) G := (rfl)
@[simp] theorem fSub_int (i j : Int) : fSub (.val (.int i)) (.val (.int j)) G = .ok (.val (.int (i - j))) G := (rfl)
@[simp] theorem fAnd_int (i j : Int) : fAnd (.val (.int i)) (.val (.int j)) G = .ok (.val (.int (Builtin.bitAnd i j))) G := (rfl)
@[simp] theorem fOr_int (i j : Int) : fOr (.val (.int i)) (.val (.int j)) G = .ok (.val (.int (Builtin.bitOr i j))) G := (rfl)
@[simp] theorem fXor_int (i j : Int) : fXor (.val (.int i)) (.val (.int j)) G = .ok (.val (.int (Builtin.bitXor i j))) G := (rfl)
@[simp] theorem fLt_int (i j : Int) : fLt (.val (.int i)) (.val (.int j)) G = .ok (.val (.bl (decide (i < j)))) G := (rfl)
@[simp] theorem fLe_int (i j : Int) : fLe (.val (.int i)) (.val (.int j)) G = .ok (.val (.bl (decide (i ≤ j)))) G := (rfl)
@[simp] theorem fGt_int (i j : Int) : fGt (.val (.int i)) (.val (.int j)) G = .ok (.val (.bl (decide (j < i)))) G := (rfl)
@[simp] theorem fGe_int (i j : Int) : fGe (.val (.int i)) (.val (.int j)) G = .ok (.val (.bl (decide (j ≤ i)))) G := (rfl)
@[simp] theorem fNeg_int (i : Int) : fNeg (.val (.int i)) G = .ok (.val (.int (-i))) G := (rfl)
theorem fI2_ok {c : Int → Int → Bool} {g : Int → Int → Int} {i j : Int} (h : c i j = true) : fI2 c g (.val (.int i)) (.val (.int j)) G = .ok (.val (.int (g i j))) G := by
  unfold fI2
  dsimp only
  rw [if_pos h]
theorem fMul_int {i j : Int} (h : mulOk i j = true) : fMul (.val (.int i)) (.val (.int j)) G = .ok (.val (.int (i * j))) G := by
  unfold fMul
  dsimp only
  rw [if_pos h]
theorem mulOk_of {i j : Int} {a b : Nat} (ha : Builtin.Int.intBits i ≤ a) (hb : Builtin.Int.intBits j ≤ b) (h : a + b ≤ 134217728) : mulOk i j = true := by
  unfold mulOk
  exact decide_eq_true (by omega)
theorem fFdiv_int {i j : Int} (h : 0 < j) (hl : j.natAbs.log2 < 9000) : fFdiv (.val (.int i)) (.val (.int j)) G = .ok (.val (.int (i / j))) G :=
  fI2_ok (by simp only [decide_eq_true h, decide_eq_true hl, Bool.and_self])
theorem fMod_int {i j : Int} (h : 0 < j) : fMod (.val (.int i)) (.val (.int j)) G = .ok (.val (.int (i % j))) G := fI2_ok (decide_eq_true h)
theorem fShr_int {i j : Int} (h : 0 ≤ j) : fShr (.val (.int i)) (.val (.int j)) G = .ok (.val (.int (i / 2 ^ j.toNat))) G := fI2_ok (decide_eq_true h)
theorem fShl_int {i j : Int} (h : 0 ≤ j) (hl : (Builtin.Int.intBits i : Int) + j ≤ 2 ^ 27) : fShl (.val (.int i)) (.val (.int j)) G = .ok (.val (.int (i * 2 ^ j.toNat))) G :=
  fI2_ok (by simp only [decide_eq_true h, decide_eq_true hl, Bool.and_self])
theorem fEq_data {x y : T} {d e : PyData} (hx : toDT G x = some d) (hy : toDT G y = some e) : fEq x y G = .ok (.val (.bl (PyData.eqv d e))) G := by
  unfold fEq; rw [hx, hy]
theorem fNe_data {x y : T} {d e : PyData} (hx : toDT G x = some d) (hy : toDT G y = some e) : fNe x y G = .ok (.val (.bl (!PyData.eqv d e))) G := by
  unfold fNe; rw [hx, hy]
@[simp] theorem fEq_int (i j : Int) : fEq (.val (.int i)) (.val (.int j)) G = .ok (.val (.bl (decide (i = j)))) G := fEq_data (d := .int i) (e := .int j) rfl rfl
@[simp] theorem fNe_int (i j : Int) : fNe (.val (.int i)) (.val (.int j)) G = .ok (.val (.bl (!decide (i = j)))) G := fNe_data (d := .int i) (e := .int j) rfl rfl
@[simp] theorem truT_bl (b : Bool) : truT (.val (.bl b)) G = .ok b G := (rfl)
@[simp] theorem truT_int (i : Int) : truT (.val (.int i)) G = .ok (i != 0) G := (rfl)
@[simp] theorem truT_non : truT (.val .non) G = .ok false G := (rfl)
@[simp] theorem truT_tmp (ws : List W) : truT (.tmp ws) G = .ok (!ws.isEmpty) G := (rfl)
@[simp] theorem truT_tup (ws : List W) : truT (.val (.tup ws)) G = .ok (!ws.isEmpty) G := (rfl)
@[simp] theorem iterA_tup (ws : List W) : iterA (.val (.tup ws)) G = .ok (ws, []) G := (rfl)
@[simp] theorem iterA_tmp (ws : List W) : iterA (.tmp ws) G = .ok (ws, []) G := (rfl)
@[simp] theorem iterA_frl (ws : List W) : iterA (.val (.frl ws)) G = .ok (ws, []) G := (rfl)
theorem iterA_loc {n : Nat} {ws : List W} (h : rdw G (.loc n) = some ws) : iterA (.val (.loc n)) G = .ok (ws, [(n, ws)]) G := by
  unfold iterA
  dsimp only
  rw [h]
theorem in62_of {i : Int} (h1 : -4611686018427387904 ≤ i) (h2 : i < 4611686018427387904) : in62 i = true := by
  unfold in62
  rw [show (2 : Int) ^ 62 = 4611686018427387904 from rfl, decide_eq_true h1, decide_eq_true h2]; rfl
theorem iterR_ok {j : Int} (h : in62 j = true) : iterR [.int j] G = .ok (rangeW 0 j.toNat, []) G := by
  unfold iterR
  dsimp only
  rw [if_pos h]
theorem iterR2_ok {i j : Int} (h : in62 i = true) (h2 : in62 j = true) : iterR2 [.int i, .int j] G = .ok (rangeW i (j - i).toNat, []) G := by
  unfold iterR2
  dsimp only
  rw [h, h2]; rfl
@[simp] theorem rangeW_len (lo : Int) (n : Nat) : (rangeW lo n).length = n := by simp [rangeW]
theorem rangeW_get {lo : Int} {n i : Nat} {w : W} (h : (rangeW lo n)[i]? = some w) : i < n ∧ w = .int (lo + i) := by
  have hl : i < n := by
    have := (List.getElem?_eq_some_iff.mp h).1
    simpa using this
  refine ⟨hl, ?_⟩
  unfold rangeW at h
  rw [List.getElem?_map, List.getElem?_range hl] at h
  simpa using h.symm
/-! what stands on top of a heap -/
@[simp] theorem get_top0 (xs : List GO) : (G ++ xs)[G.length]? = xs[0]? := by
  rw [List.getElem?_append_right (Nat.le_refl _), Nat.sub_self]
@[simp] theorem get_topk (xs : List GO) (k : Nat) : (G ++ xs)[G.length + k]? = xs[k]? := by
  rw [List.getElem?_append_right (Nat.le_add_right _ _), Nat.add_sub_cancel_left]
@[simp] theorem set_top0 (xs : List GO) (o : GO) : (G ++ xs).set G.length o = G ++ xs.set 0 o := by
  rw [List.set_append_right _ _ (Nat.le_refl _), Nat.sub_self]
@[simp] theorem set_topk (xs : List GO) (k : Nat) (o : GO) : (G ++ xs).set (G.length + k) o = G ++ xs.set k o := by
  rw [List.set_append_right _ _ (Nat.le_add_right _ _), Nat.add_sub_cancel_left]
@[simp] theorem rd_lst (ws : List W) : GO.rd (.lst ws) = some ws := (rfl)
@[simp] theorem wr_lst (ws : List W) : GO.wr (.lst ws) = some ws := (rfl)
@[simp] theorem rdw_loc (n : Nat) : rdw G (.loc n) = G[n]?.bind GO.rd := (rfl)
@[simp] theorem rdw_frl (ws : List W) : rdw G (.frl ws) = some ws := (rfl)
@[simp] theorem wrw_loc (n : Nat) : wrw G (.loc n) = G[n]?.bind GO.wr := (rfl)
@[simp] theorem rdl_tmp (ws : List W) : rdl (.tmp ws) G = some ws := (rfl)
@[simp] theorem rdl_val (w : W) : rdl (.val w) G = rdw G w := (rfl)
@[simp] theorem wrl_tmp (ws : List W) : wrl (.tmp ws) G = some ws := (rfl)
@[simp] theorem wrl_val (w : W) : wrl (.val w) G = wrw G w := (rfl)
@[simp] theorem lstAt_loc (n : Nat) : lstAt (.val (.loc n)) G = (G[n]?.bind GO.wr).map fun ws => (n, ws) := (rfl)
theorem fApp_ok {n : Nat} {us : List W} {w : W} (h : G[n]? = some (.lst us)) (hl : us.length < 16777216) : fApp (.val (.loc n)) [w] G = .ok (.val .non) (G.set n (.lst (us ++ [w]))) := by
  unfold fApp
  simp [h, hl]
theorem isLst_ok {n : Nat} {us : List W} (h : G[n]? = some (.lst us)) : isLst (.val (.loc n)) G = true := by
  unfold isLst
  simp [h]
end

/-! loops -/
@[simp] theorem still_nil' {G : GH} : still [] G = true := still_nil
theorem still_of {n : Nat} {ws : List W} {G : GH} (h : G[n]? = some (.lst ws)) : still [(n, ws)] G = true := still_iff.mpr fun p hp => by
  simp at hp; subst hp; simp [h]
section
variable {src : Src} {g : MG} {b : MS}
/-- what a turn of a loop leaves -/
def Turn (N : Sl → GH → Prop) (E : RS → Prop) : RS → Prop
  | .nx τ G => N τ G
  | .ct τ G => N τ G
  | .bk τ G => E (.nx τ G)
  | .rt w G => E (.rt w G)
  | .ex c fs τ G => E (.ex c fs τ G)
  | .bad => False
@[simp] theorem turn_nx {N : Sl → GH → Prop} {E : RS → Prop} {τ : Sl} {G : GH} : Turn N E (.nx τ G) = N τ G := (rfl)
@[simp] theorem turn_ct {N : Sl → GH → Prop} {E : RS → Prop} {τ : Sl} {G : GH} : Turn N E (.ct τ G) = N τ G := (rfl)
@[simp] theorem turn_bk {N : Sl → GH → Prop} {E : RS → Prop} {τ : Sl} {G : GH} : Turn N E (.bk τ G) = E (.nx τ G) := (rfl)
@[simp] theorem turn_rt {N : Sl → GH → Prop} {E : RS → Prop} {w : W} {G : GH} : Turn N E (.rt w G) = E (.rt w G) := (rfl)
@[simp] theorem turn_ex {N : Sl → GH → Prop} {E : RS → Prop} {c : Nat} {fs : List (Str × W)} {τ : Sl} {G : GH} : Turn N E (.ex c fs τ G) = E (.ex c fs τ G) := (rfl)
theorem forL_run (I : Nat → Sl → GH → Prop) (E : RS → Prop) {ws : List W} {τ : Sl} {G : GH} (h0 : I 0 τ G)
    (hs : ∀ i w τ G, ws[i]? = some w → I i τ G → still src G = true ∧ ∃ τ1, g w τ = some τ1 ∧ Turn (I (i + 1)) E (b τ1 G))
    (he : ∀ τ G, I ws.length τ G → still src G = true ∧ E (.nx τ G)) : E (forL src g b ws τ G) := by
  have key : ∀ (n i : Nat) (τ : Sl) (G : GH), n = ws.length - i → i ≤ ws.length → I i τ G → E (forL src g b (ws.drop i) τ G) := by
    intro n
    induction n with
    | zero =>
      intro i τ G hn hi h
      have e : i = ws.length := by omega
      subst e
      obtain ⟨h1, h2⟩ := he τ G h
      rw [List.drop_length]
      unfold forL
      rw [h1]; exact h2
    | succ n ih =>
      intro i τ G hn hi h
      have hlt : i < ws.length := by omega
      rw [List.drop_eq_getElem_cons hlt]
      obtain ⟨h1, τ1, h2, h3⟩ := hs i _ τ G (List.getElem?_eq_getElem hlt) h
      unfold forL
      rw [h1, h2]
      simp only [if_true]
      cases e : b τ1 G with
      | nx τ2 G2 => rw [e] at h3; exact ih (i + 1) τ2 G2 (by omega) hlt h3
      | ct τ2 G2 => rw [e] at h3; exact ih (i + 1) τ2 G2 (by omega) hlt h3
      | bk τ2 G2 => rw [e] at h3; exact h3
      | rt w G2 => rw [e] at h3; exact h3
      | ex c fs τ2 G2 => rw [e] at h3; exact h3
      | bad => rw [e] at h3; exact h3.elim
  have := key ws.length 0 τ G rfl (Nat.zero_le _) h0
  rwa [List.drop_zero] at this
theorem whileF_run (I : Nat → Sl → GH → Prop) (E : RS → Prop) {c : M Bool} {m n : Nat} {τ : Sl} {G : GH} (h0 : I m τ G) (hn : m < n)
    (hs : ∀ m τ G, I m τ G → ∃ x G1, c τ G = .ok x G1 ∧ if x then Turn (fun τ G => ∃ m', m' < m ∧ I m' τ G) E (b τ G1) else E (.nx τ G1)) : E (whileF c b n τ G) := by
  induction n generalizing m τ G with
  | zero => omega
  | succ n ih =>
    obtain ⟨x, G1, h1, h2⟩ := hs m τ G h0
    unfold whileF
    rw [h1]
    cases x with
    | false => simpa using h2
    | true =>
      simp only [R.toS_ok, if_true] at h2 ⊢
      cases e : b τ G1 with
      | nx τ2 G2 => rw [e] at h2; obtain ⟨m', hm, h3⟩ := h2; exact ih h3 (by omega)
      | ct τ2 G2 => rw [e] at h2; obtain ⟨m', hm, h3⟩ := h2; exact ih h3 (by omega)
      | bk τ2 G2 => rw [e] at h2; exact h2
      | rt w G2 => rw [e] at h2; exact h2
      | ex c fs τ2 G2 => rw [e] at h2; exact h2
      | bad => rw [e] at h2; exact h2.elim
/-- a comprehension that leaves the heap as it is -/
theorem compF_map {c : M Bool} {e : M T} {τ : Sl} {G : GH} {ws : List W} (f : W → W) (hs : still src G = true)
    (h : ∀ w ∈ ws, ∃ τ1, g w τ = some τ1 ∧ c τ1 G = .ok true G ∧ (e τ1 G).bind force = .ok (f w) G) : compF src g c e τ ws G = .ok (ws.map f) G := by
  induction ws with
  | nil => unfold compF; rw [hs]; rfl
  | cons w ws ih =>
    obtain ⟨τ1, h1, h2, h3⟩ := h w (List.mem_cons_self ..)
    unfold compF
    rw [hs, h1]
    have h3' : mF e τ1 G = .ok (f w) G := h3
    simp only [if_true, h2, R.noEx, R.bind_ok, h3', ih fun u hu => h u (List.mem_cons_of_mem _ hu)]
    rfl
theorem mComp_at (mi : M (List W × Src)) (c : M Bool) (e : M T) (vs : List Nat) (τ : Sl) (G : GH) : mComp mi g c e vs τ G = (mi τ G).bind fun p G1 =>
  if p.1.length ≤ 16777216 then (compF p.2 g c e (wipeS τ vs) p.1 G1).bind fun ys G2 => .ok (.tmp ys) G2 else .bad := (rfl)
@[simp] theorem mYes_at (τ : Sl) (G : GH) : mYes τ G = .ok true G := (rfl)
end
end Sy
set_option Elab.async false
set_option linter.all false
set_option maxRecDepth 100000
set_option maxHeartbeats 4000000
namespace Sy
open PySem PySem.Spec PyProof.Rows L2
/-! like data -/
theorem eqvA_cons (x y : PyData) (xs ys : List PyData) : PyData.eqvAll (x :: xs) (y :: ys) = (PyData.eqv x y && PyData.eqvAll xs ys) := by rw [PyData.eqvAll]
mutual
def noDict : PyData → Bool
  | .dict _ => false
  | .list xs => noDictA xs
  | .tuple xs => noDictA xs
  | _ => true
def noDictA : List PyData → Bool
  | [] => true
  | x :: xs => noDict x && noDictA xs
end
mutual
theorem eqv_self : ∀ d : PyData, noDict d = true → PyData.eqv d d = true
  | .none, _ => by rw [PyData.eqv]
  | .bool b, _ => by rw [PyData.eqv]; simp
  | .int b, _ => by rw [PyData.eqv]; simp
  | .str b, _ => by rw [PyData.eqv]; simp
  | .list xs, h => by rw [PyData.eqv]; exact eqvA_self xs (by simpa [noDict] using h)
  | .tuple xs, h => by rw [PyData.eqv]; exact eqvA_self xs (by simpa [noDict] using h)
  | .dict xs, h => by simp [noDict] at h
theorem eqvA_self : ∀ xs : List PyData, noDictA xs = true → PyData.eqvAll xs xs = true
  | [], _ => by rw [PyData.eqvAll]
  | x :: xs, h => by
    simp [noDictA] at h
    rw [eqvA_cons, eqv_self x h.1, eqvA_self xs h.2]; rfl
end
/-! no truths, no dicts -/
mutual
def plainD : PyData → Bool
  | .dict _ => false
  | .bool _ => false
  | .list xs => plainA xs
  | .tuple xs => plainA xs
  | _ => true
def plainA : List PyData → Bool
  | [] => true
  | x :: xs => plainD x && plainA xs
end
mutual
theorem eqv_eq : ∀ d e : PyData, plainD d = true → plainD e = true → PyData.eqv d e = true → d = e
  | .none, .none, _, _, _ => rfl
  | .int a, .int b, _, _, h => by rw [PyData.eqv] at h; simp at h; rw [h]
  | .str a, .str b, _, _, h => by rw [PyData.eqv] at h; simp at h; rw [h]
  | .list xs, .list ys, h1, h2, h => by rw [PyData.eqv] at h; rw [eqvA_eq xs ys (by simpa [plainD] using h1) (by simpa [plainD] using h2) h]
  | .tuple xs, .tuple ys, h1, h2, h => by rw [PyData.eqv] at h; rw [eqvA_eq xs ys (by simpa [plainD] using h1) (by simpa [plainD] using h2) h]
  | .bool _, _, h, _, _ => by simp [plainD] at h
  | .dict _, _, h, _, _ => by simp [plainD] at h
  | .none, .bool _, _, h, _ | .int _, .bool _, _, h, _ | .str _, .bool _, _, h, _ | .list _, .bool _, _, h, _ | .tuple _, .bool _, _, h, _ => by simp [plainD] at h
  | .none, .dict _, _, h, _ | .int _, .dict _, _, h, _ | .str _, .dict _, _, h, _ | .list _, .dict _, _, h, _ | .tuple _, .dict _, _, h, _ => by simp [plainD] at h
  | .none, .int _, _, _, h | .none, .str _, _, _, h | .none, .list _, _, _, h | .none, .tuple _, _, _, h => by simp [PyData.eqv] at h
  | .int _, .none, _, _, h | .int _, .str _, _, _, h | .int _, .list _, _, _, h | .int _, .tuple _, _, _, h => by simp [PyData.eqv] at h
  | .str _, .none, _, _, h | .str _, .int _, _, _, h | .str _, .list _, _, _, h | .str _, .tuple _, _, _, h => by simp [PyData.eqv] at h
  | .list _, .none, _, _, h | .list _, .int _, _, _, h | .list _, .str _, _, _, h | .list _, .tuple _, _, _, h => by simp [PyData.eqv] at h
  | .tuple _, .none, _, _, h | .tuple _, .int _, _, _, h | .tuple _, .str _, _, _, h | .tuple _, .list _, _, _, h => by simp [PyData.eqv] at h
theorem eqvA_eq : ∀ xs ys : List PyData, plainA xs = true → plainA ys = true → PyData.eqvAll xs ys = true → xs = ys
  | [], [], _, _, _ => rfl
  | [], _ :: _, _, _, h => by simp [PyData.eqvAll] at h
  | _ :: _, [], _, _, h => by simp [PyData.eqvAll] at h
  | x :: xs, y :: ys, h1, h2, h => by
    rw [eqvA_cons, Bool.and_eq_true] at h
    simp [plainA] at h1 h2
    rw [eqv_eq x y h1.1 h2.1 h.1, eqvA_eq xs ys h1.2 h2.2 h.2]
end
mutual
theorem noDict_plain : ∀ d : PyData, plainD d = true → noDict d = true
  | .none, _ => rfl
  | .bool _, _ => rfl
  | .int _, _ => rfl
  | .str _, _ => rfl
  | .list xs, h => by rw [noDict]; exact noDictA_plain xs (by simpa [plainD] using h)
  | .tuple xs, h => by rw [noDict]; exact noDictA_plain xs (by simpa [plainD] using h)
  | .dict _, h => by simp [plainD] at h
theorem noDictA_plain : ∀ xs : List PyData, plainA xs = true → noDictA xs = true
  | [], _ => rfl
  | x :: xs, h => by
    simp [plainA] at h
    rw [noDictA, noDict_plain x h.1, noDictA_plain xs h.2]; rfl
end
open Classical in
theorem eqv_dec {d e : PyData} (h1 : plainD d = true) (h2 : plainD e = true) : PyData.eqv d e = decide (d = e) := by
  by_cases h : d = e
  · subst h
    rw [eqv_self d (noDict_plain d h1)]
    simp
  · cases z : PyData.eqv d e with
    | true => exact absurd (eqv_eq d e h1 h2 z) h
    | false => simp [h]
theorem plainA_ints (is : List Int) : plainA (is.map PyData.int) = true := by
  induction is with
  | nil => rfl
  | cons i is ih => rw [List.map_cons, plainA, ih]; rfl
theorem ints_inj {is js : List Int} : is.map PyData.int = js.map PyData.int ↔ is = js := by
  constructor
  · intro h
    induction is generalizing js with
    | nil => cases js <;> simp at h ⊢
    | cons i is ih =>
      cases js with
      | nil => simp at h
      | cons j js => simp at h; rw [h.1, ih (by simpa using h.2)]
  · intro h; rw [h]
theorem eqv_ints (is js : List Int) : PyData.eqv (.list (is.map .int)) (.list (js.map .int)) = decide (is = js) := by
  rw [eqv_dec (by rw [plainD]; exact plainA_ints is) (by rw [plainD]; exact plainA_ints js)]
  simp [ints_inj]
/-! data of values -/
theorem mapO_ints (n : Nat) (G : GH) (is : List Int) : mapO (toD (n + 1) G) (is.map W.int) = some (is.map PyData.int) := by
  induction is with
  | nil => rfl
  | cons i is ih => unfold mapO; rw [List.map_cons]; simp [ih]; rfl
theorem toDT_tmpI (G : GH) (is : List Int) : toDT G (.tmp (is.map W.int)) = some (.list (is.map PyData.int)) := by
  have e : mapO (toD 8 G) (is.map W.int) = some (is.map PyData.int) := mapO_ints 7 G is
  unfold toDT
  simp [e]
theorem toDT_locI {G : GH} {n : Nat} {is : List Int} (h : G[n]? = some (.lst (is.map W.int))) : toDT G (.val (.loc n)) = some (.list (is.map PyData.int)) := by
  have e : mapO (toD 8 G) (is.map W.int) = some (is.map PyData.int) := mapO_ints 7 G is
  unfold toDT toD
  simp [h, e]
@[simp] theorem toDT_int (G : GH) (i : Int) : toDT G (.val (.int i)) = some (.int i) := (rfl)
@[simp] theorem toDT_bl (G : GH) (i : Bool) : toDT G (.val (.bl i)) = some (.bool i) := (rfl)
@[simp] theorem toDT_non (G : GH) : toDT G (.val .non) = some .none := (rfl)
theorem blsW_map (bs : List Bool) : blsW (bs.map W.bl) = some bs := by
  induction bs with
  | nil => rfl
  | cons b bs ih => unfold blsW; rw [List.map_cons]; simp [ih]
theorem intsW_map (bs : List Int) : intsW (bs.map W.int) = some bs := by
  induction bs with
  | nil => rfl
  | cons b bs ih => unfold intsW; rw [List.map_cons]; simp [ih]
theorem fAll_tmp (bs : List Bool) (G : GH) : fAll [.tmp (bs.map W.bl)] G = .ok (.val (.bl (bs.all id))) G := by
  unfold fAll
  simp [blsW_map]
theorem fAny_tmp (bs : List Bool) (G : GH) : fAny [.tmp (bs.map W.bl)] G = .ok (.val (.bl (bs.any id))) G := by
  unfold fAny
  simp [blsW_map]
theorem fSum_tmp (is : List Int) (G : GH) : fSum [.tmp (is.map W.int)] G = .ok (.val (.int is.sum)) G := by
  unfold fSum
  simp [intsW_map]
theorem fAll_yes {α : Type} (ws : List α) (G : GH) : fAll [.tmp (ws.map fun _ => W.bl true)] G = .ok (.val (.bl true)) G := by
  have h := fAll_tmp (ws.map fun _ => true) G
  rw [List.map_map] at h
  rw [show (ws.map fun _ => W.bl true) = ws.map (W.bl ∘ fun _ => true) from rfl, h]
  simp
theorem fIn_ints {G : GH} {n : Nat} {is : List Int} (i : Int) (h : G[n]? = some (.lst (is.map W.int))) : fIn (.val (.int i)) (.val (.loc n)) G = .ok (.val (.bl (decide (i ∈ is)))) G := by
  unfold fIn inB
  simp only [toDT_int, toDT_locI h]
  have e : ((is.map PyData.int).any fun z => PyData.eqv z (.int i)) = decide (i ∈ is) := by
    clear h
    induction is with
    | nil => simp
    | cons j js ih =>
      rw [List.map_cons, List.any_cons, ih, show PyData.eqv (.int j) (.int i) = (j == i) by rw [PyData.eqv]]
      by_cases hj : j = i
      · subst hj; simp
      · have hj2 : ¬ i = j := fun e => hj e.symm
        simp [hj, hj2]
  rw [e]
@[simp] theorem fLen_tmp (ws : List W) (G : GH) : fLen [.tmp ws] G = .ok (.val (.int ws.length)) G := (rfl)
theorem fLen_loc {G : GH} {n : Nat} {ws : List W} (h : G[n]? = some (.lst ws)) : fLen [.val (.loc n)] G = .ok (.val (.int ws.length)) G := by
  unfold fLen
  simp [h]
end Sy
set_option Elab.async false
set_option linter.all false
set_option maxRecDepth 100000
set_option maxHeartbeats 4000000
namespace Sy
open PySem PySem.Spec PyProof.Rows L2
/-! steps of a suite -/
theorem seq_nx {a b : MS} {τ τ1 : Sl} {G G1 : GH} (h : a τ G = .nx τ1 G1) : sSeq a b τ G = b τ1 G1 := by
  rw [sSeq_at, h]; rfl
theorem seq_rt {a b : MS} {τ : Sl} {w : W} {G G1 : GH} (h : a τ G = .rt w G1) : sSeq a b τ G = .rt w G1 := by
  rw [sSeq_at, h]; rfl
theorem seq_ex {a b : MS} {τ τ1 : Sl} {c : Nat} {fs} {G G1 : GH} (h : a τ G = .ex c fs τ1 G1) : sSeq a b τ G = .ex c fs τ1 G1 := by
  rw [sSeq_at, h]; rfl
theorem seq_no {c : M Bool} {a b : MS} {τ : Sl} {G G1 : GH} (h : c τ G = .ok false G1) : sSeq (sIf c a sNext) b τ G = b τ G1 := by
  refine seq_nx ?_
  rw [sIf_at, h]; rfl
theorem seq_yes {c : M Bool} {a b d : MS} {τ : Sl} {G G1 : GH} (h : c τ G = .ok true G1) : sSeq (sIf c a d) b τ G = sSeq a b τ G1 := by
  rw [sSeq_at, sSeq_at, sIf_at, h]; rfl
theorem seq_else {c : M Bool} {a b d : MS} {τ : Sl} {G G1 : GH} (h : c τ G = .ok false G1) : sSeq (sIf c a d) b τ G = sSeq d b τ G1 := by
  rw [sSeq_at, sSeq_at, sIf_at, h]; rfl
theorem if_no {c : M Bool} {a : MS} {τ : Sl} {G G1 : GH} (h : c τ G = .ok false G1) : sIf c a sNext τ G = .nx τ G1 := by
  rw [sIf_at, h]; rfl
theorem if_yes {c : M Bool} {a d : MS} {τ : Sl} {G G1 : GH} (h : c τ G = .ok true G1) : sIf c a d τ G = a τ G1 := by
  rw [sIf_at, h]; rfl
theorem if_else {c : M Bool} {a d : MS} {τ : Sl} {G G1 : GH} (h : c τ G = .ok false G1) : sIf c a d τ G = d τ G1 := by
  rw [sIf_at, h]; rfl
theorem try_nx {xt : XTab} {C i : Nat} {mb : MS} {ms : Nat → Addr → MS} {τ τ1 : Sl} {G G1 : GH} (h : mb τ G = .nx τ1 G1) : sTry xt C i mb ms τ G = .nx τ1 G1 := by
  unfold sTry; rw [h]
theorem try_rt {xt : XTab} {C i : Nat} {mb : MS} {ms : Nat → Addr → MS} {τ : Sl} {w : W} {G G1 : GH} (h : mb τ G = .rt w G1) : sTry xt C i mb ms τ G = .rt w G1 := by
  unfold sTry; rw [h]
theorem try_ex {xt : XTab} {C i c : Nat} {mb : MS} {ms : Nat → Addr → MS} {τ τ1 : Sl} {G G1 : GH} {r : RS} (h : mb τ G = .ex c [] τ1 G1) (hx : xsub xt c C = some true) (hs : ∀ a, (ms c a (τ1.set i (some (.exn c a))) G1).unS i = r) : sTry xt C i mb ms τ G = r := by
  unfold sTry; rw [h]
  simp only [hx]
  exact pick_eq hs
theorem mDef_ex {n : Nat} {b : MS} {ws : List W} {G : GH} (τ : Sl) {τ1 : Sl} {c : Nat} {fs} {G' : GH} (h : b τ G = .ex c fs τ1 G') (hτ : ws.map some ++ List.replicate (n - ws.length) none = τ := by rfl) : mDef n b ws G = .ex c fs G' := by
  rw [mDef_fin, hτ, h]; rfl
theorem mDef_nx {n : Nat} {b : MS} {ws : List W} {G : GH} (τ : Sl) {τ1 : Sl} {G' : GH} (h : b τ G = .nx τ1 G') (hτ : ws.map some ++ List.replicate (n - ws.length) none = τ := by rfl) : mDef n b ws G = .ok .non G' := by
  rw [mDef_fin, hτ, h]; rfl
@[simp] theorem sRaise_at (c : Nat) (τ : Sl) (G : GH) : sRaise c τ G = .ex c [] τ G := (rfl)
@[simp] theorem mDict0_at (τ : Sl) (G : GH) : mDict0 τ G = .ok (.val (.loc G.length)) (G ++ [.dK []]) := (rfl)
theorem fIsE_ok {it : ITab} {c : Nat} {a : Addr} {k : W} {b : Bool} {G : GH} (h : (ckW k).bind (isub it c) = some b) : fIsE it c a [.val (.exn c a), .val k] G = .ok (.val (.bl b)) G := by
  unfold fIsE
  simp [h]
/-! types -/
def fIsiR (o : Option Bool) (G : GH) : R T := match o with
  | some b => .ok (.val (.bl b)) G
  | none => .bad
theorem fIsi_at (t : T) (b : String) (G : GH) : fIsi [t, .val (.ty b)] G = fIsiR ((tyOf G t).bind fun a => subTy a b) G := by
  show (match (tyOf G t).bind fun a => subTy a b with
    | some r => R.ok (T.val (W.bl r)) G
    | none => R.bad) = _
  unfold fIsiR
  cases (tyOf G t).bind fun a => subTy a b <;> rfl
theorem tyOf_lst {G : GH} {n : Nat} {ws : List W} (h : G[n]? = some (.lst ws)) : tyOf G (.val (.loc n)) = some "list" := by
  unfold tyOf; simp [h]
theorem tyOf_dK {G : GH} {n : Nat} {ws} (h : G[n]? = some (.dK ws)) : tyOf G (.val (.loc n)) = some "dict" := by
  unfold tyOf; simp [h]
theorem isi_of {G : GH} {t : T} {a b : String} {r : Bool} (h : tyOf G t = some a) (hs : subTy a b = some r) : fIsi [t, .val (.ty b)] G = .ok (.val (.bl r)) G := by
  rw [fIsi_at, h, Option.bind_some, hs]; rfl
@[simp] theorem isi_int_int (i : Int) (G : GH) : fIsi [.val (.int i), .val (.ty "int")] G = .ok (.val (.bl true)) G := isi_of (a := "int") rfl (by decide)
@[simp] theorem isi_int_bool (i : Int) (G : GH) : fIsi [.val (.int i), .val (.ty "bool")] G = .ok (.val (.bl false)) G := isi_of (a := "int") rfl (by decide)
@[simp] theorem isi_int_list (i : Int) (G : GH) : fIsi [.val (.int i), .val (.ty "list")] G = .ok (.val (.bl false)) G := isi_of (a := "int") rfl (by decide)
@[simp] theorem isi_int_tuple (i : Int) (G : GH) : fIsi [.val (.int i), .val (.ty "tuple")] G = .ok (.val (.bl false)) G := isi_of (a := "int") rfl (by decide)
@[simp] theorem isi_bl_int (i : Bool) (G : GH) : fIsi [.val (.bl i), .val (.ty "int")] G = .ok (.val (.bl true)) G := isi_of (a := "bool") rfl (by decide)
@[simp] theorem isi_bl_bool (i : Bool) (G : GH) : fIsi [.val (.bl i), .val (.ty "bool")] G = .ok (.val (.bl true)) G := isi_of (a := "bool") rfl (by decide)
@[simp] theorem isi_non_int (G : GH) : fIsi [.val .non, .val (.ty "int")] G = .ok (.val (.bl false)) G := isi_of (a := "NoneType") rfl (by decide)
@[simp] theorem isi_non_list (G : GH) : fIsi [.val .non, .val (.ty "list")] G = .ok (.val (.bl false)) G := isi_of (a := "NoneType") rfl (by decide)
@[simp] theorem isi_str_int (x : Str) (G : GH) : fIsi [.val (.str x), .val (.ty "int")] G = .ok (.val (.bl false)) G := isi_of (a := "str") rfl (by decide)
@[simp] theorem isi_str_list (x : Str) (G : GH) : fIsi [.val (.str x), .val (.ty "list")] G = .ok (.val (.bl false)) G := isi_of (a := "str") rfl (by decide)
@[simp] theorem isi_tup_int (x : List W) (G : GH) : fIsi [.val (.tup x), .val (.ty "int")] G = .ok (.val (.bl false)) G := isi_of (a := "tuple") rfl (by decide)
@[simp] theorem isi_tup_list (x : List W) (G : GH) : fIsi [.val (.tup x), .val (.ty "list")] G = .ok (.val (.bl false)) G := isi_of (a := "tuple") rfl (by decide)
@[simp] theorem isi_tup_tuple (x : List W) (G : GH) : fIsi [.val (.tup x), .val (.ty "tuple")] G = .ok (.val (.bl true)) G := isi_of (a := "tuple") rfl (by decide)
theorem isi_lst_list {G : GH} {n : Nat} {ws : List W} (h : G[n]? = some (.lst ws)) : fIsi [.val (.loc n), .val (.ty "list")] G = .ok (.val (.bl true)) G := isi_of (tyOf_lst h) (by decide)
theorem isi_lst_int {G : GH} {n : Nat} {ws : List W} (h : G[n]? = some (.lst ws)) : fIsi [.val (.loc n), .val (.ty "int")] G = .ok (.val (.bl false)) G := isi_of (tyOf_lst h) (by decide)
/-! lists of ints, lists of places -/
abbrev iW (is : List Int) : List W := is.map W.int
def locs (n k : Nat) : List W := (List.range k).map fun i => W.loc (n + i)
@[simp] theorem locs_len (n k : Nat) : (locs n k).length = k := by simp [locs]
theorem locs_succ (n k : Nat) : locs n (k + 1) = .loc n :: locs (n + 1) k := by
  unfold locs
  rw [List.range_succ_eq_map, List.map_cons, List.map_map]
  congr 1
  apply List.map_congr_left
  intro i _
  show W.loc (n + (i + 1)) = W.loc (n + 1 + i)
  congr 1; omega
/-! pictures: a list of lists -/
structure RowsAt (G : GH) (n : Nat) (ms : List Nat) (rows : List (List W)) : Prop where
  top : G[n]? = some (.lst (ms.map W.loc))
  row : Paired (fun m r => G[m]? = some (.lst r)) ms rows
theorem get_mono {G : GH} {n : Nat} {o : GO} (h : G[n]? = some o) (xs : GH) : (G ++ xs)[n]? = some o := by
  rw [List.getElem?_append_left (List.getElem?_eq_some_iff.mp h).1]; exact h
theorem pair_imp {α β : Type} {P Q : α → β → Prop} {xs : List α} {ys : List β} (h : Paired P xs ys) (f : ∀ x y, P x y → Q x y) : Paired Q xs ys := paired_imp h f
theorem RowsAt.mono {G : GH} {n : Nat} {ms : List Nat} {rows : List (List W)} (h : RowsAt G n ms rows) (xs : GH) : RowsAt (G ++ xs) n ms rows :=
  ⟨get_mono h.top xs, paired_imp h.row fun _ _ e => get_mono e xs⟩
theorem RowsAt.len {G : GH} {n : Nat} {ms : List Nat} {rows : List (List W)} (h : RowsAt G n ms rows) : ms.length = rows.length := h.row.length
theorem paired_mem {α β : Type} {P : α → β → Prop} {xs : List α} {ys : List β} (h : Paired P xs ys) : ∀ x ∈ xs, ∃ y ∈ ys, P x y := by
  induction h with
  | nil => simp
  | cons q t ih =>
    intro x hx
    rcases List.mem_cons.mp hx with rfl | hx
    · exact ⟨_, List.mem_cons_self, q⟩
    · obtain ⟨y, h1, h2⟩ := ih x hx
      exact ⟨y, List.mem_cons_of_mem _ h1, h2⟩
theorem paired_nth {α β : Type} {P : α → β → Prop} {xs : List α} {ys : List β} (h : Paired P xs ys) {i : Nat} {y : β} (e : ys[i]? = some y) : ∃ x, xs[i]? = some x ∧ P x y := by
  have hl : i < xs.length := by rw [h.length]; exact (List.getElem?_eq_some_iff.mp e).1
  exact ⟨_, List.getElem?_eq_getElem hl, paired_get h i _ _ (List.getElem?_eq_getElem hl) e⟩
/-- rows as they are laid: the rows, then the list of them -/
def laidR (G : GH) (rows : List (List W)) : GH := G ++ (rows.map GO.lst ++ [.lst (locs G.length rows.length)])
def places (n k : Nat) : List Nat := (List.range k).map (n + ·)
theorem places_loc (n k : Nat) : (places n k).map W.loc = locs n k := by
  unfold places locs
  rw [List.map_map]; rfl
theorem places_nodup (n k : Nat) : (places n k).Nodup := by
  unfold places
  exact List.Pairwise.map _ (fun a b (h : a ≠ b) e => h (by omega)) List.nodup_range
theorem paired_of {α β : Type} {P : α → β → Prop} : ∀ {xs : List α} {ys : List β}, xs.length = ys.length → (∀ (i : Nat) x y, xs[i]? = some x → ys[i]? = some y → P x y) → Paired P xs ys
  | [], [], _, _ => .nil
  | [], _ :: _, h, _ => by simp at h
  | _ :: _, [], h, _ => by simp at h
  | x :: xs, y :: ys, h, f => .cons (f 0 x y rfl rfl) (paired_of (by simpa using h) fun i a b e1 e2 => f (i + 1) a b (by simpa using e1) (by simpa using e2))
theorem laidR_rows (G : GH) (rows : List (List W)) : RowsAt (laidR G rows) (G.length + rows.length) (places G.length rows.length) rows := by
  unfold laidR
  refine ⟨?_, paired_of (by simp [places]) fun i m r e1 e2 => ?_⟩
  · rw [places_loc, get_topk, List.getElem?_append_right (by simp)]
    simp
  · have hl := (List.getElem?_eq_some_iff.mp e2).1
    unfold places at e1
    rw [List.getElem?_map, List.getElem?_range hl] at e1
    cases e1
    show (G ++ _)[G.length + i]? = _
    rw [get_topk, List.getElem?_append_left (by simpa using hl), List.getElem?_map, e2]; rfl
/-! data of rows of ints -/
abbrev pD (pic : List (List Int)) : PyData := .list (pic.map fun r => .list (r.map PyData.int))
theorem toD_ints (n : Nat) {G : GH} {m : Nat} {is : List Int} (h : G[m]? = some (.lst (iW is))) : toD (n + 2) G (.loc m) = some (.list (is.map PyData.int)) := by
  have e := mapO_ints n G is
  unfold toD
  simp [h, e]
theorem mapO_rows (n : Nat) {G : GH} {ms : List Nat} {pic : List (List Int)} (h : Paired (fun m r => G[m]? = some (.lst r)) ms (pic.map iW)) : mapO (toD (n + 2) G) (ms.map W.loc) = some (pic.map fun r => .list (r.map PyData.int)) := by
  induction pic generalizing ms with
  | nil => cases ms with
    | nil => rfl
    | cons m ms => exact absurd h.length (by simp)
  | cons r pic ih =>
    cases ms with
    | nil => exact absurd h.length (by simp)
    | cons m ms =>
      have h1 : G[m]? = some (.lst (iW r)) := by cases h; assumption
      have h2 : Paired (fun m r => G[m]? = some (.lst r)) ms (pic.map iW) := by cases h; assumption
      rw [List.map_cons, List.map_cons]
      unfold mapO
      rw [toD_ints n h1, ih h2]; rfl
theorem RowsAt.dat {G : GH} {n : Nat} {ms : List Nat} {pic : List (List Int)} (h : RowsAt G n ms (pic.map iW)) : toDT G (.val (.loc n)) = some (pD pic) := by
  have e := mapO_rows 6 h.row
  unfold toDT toD
  simp [h.top, e]
theorem plain_pD (pic : List (List Int)) : plainD (pD pic) = true := by
  rw [plainD]
  induction pic with
  | nil => rfl
  | cons r pic ih =>
    rw [List.map_cons, plainA, ih, plainD, plainA_ints]; rfl
theorem pD_inj {p q : List (List Int)} : pD p = pD q ↔ p = q := by
  constructor
  · intro h
    have h2 : (p.map fun r => PyData.list (r.map PyData.int)) = q.map fun r => PyData.list (r.map PyData.int) := by
      injection h
    induction p generalizing q with
    | nil => cases q <;> simp at h2 ⊢
    | cons r p ih =>
      cases q with
      | nil => simp at h2
      | cons s q =>
        rw [List.map_cons, List.map_cons] at h2
        injection h2 with h3 h4
        injection h3 with h5
        rw [ints_inj.mp h5, ih (by rw [pD, pD, h4]) h4]
  · intro h; rw [h]
theorem eqv_pD (p q : List (List Int)) : PyData.eqv (pD p) (pD q) = decide (p = q) := by
  rw [eqv_dec (plain_pD p) (plain_pD q)]
  simp only [pD_inj]
theorem RowsAt.eq {G : GH} {n m : Nat} {ms ks : List Nat} {p q : List (List Int)} (h : RowsAt G n ms (p.map iW)) (h2 : RowsAt G m ks (q.map iW)) : fEq (.val (.loc n)) (.val (.loc m)) G = .ok (.val (.bl (decide (p = q)))) G := by
  rw [fEq_data h.dat h2.dat, eqv_pD]
theorem RowsAt.ne {G : GH} {n m : Nat} {ms ks : List Nat} {p q : List (List Int)} (h : RowsAt G n ms (p.map iW)) (h2 : RowsAt G m ks (q.map iW)) : fNe (.val (.loc n)) (.val (.loc m)) G = .ok (.val (.bl (!decide (p = q)))) G := by
  rw [fNe_data h.dat h2.dat, eqv_pD]
theorem eq_ints {G : GH} {n m : Nat} {p q : List Int} (h : G[n]? = some (.lst (iW p))) (h2 : G[m]? = some (.lst (iW q))) : fEq (.val (.loc n)) (.val (.loc m)) G = .ok (.val (.bl (decide (p = q)))) G := by
  rw [fEq_data (toDT_locI h) (toDT_locI h2), eqv_ints]
theorem ne_ints {G : GH} {n m : Nat} {p q : List Int} (h : G[n]? = some (.lst (iW p))) (h2 : G[m]? = some (.lst (iW q))) : fNe (.val (.loc n)) (.val (.loc m)) G = .ok (.val (.bl (!decide (p = q)))) G := by
  rw [fNe_data (toDT_locI h) (toDT_locI h2), eqv_ints]
/-! comprehensions that lay a list each turn -/
theorem compF_alloc {src : Src} {g : MG} {c : M Bool} {e : M T} {τ : Sl} {G : GH} {ws : List W} (f : W → List W) (hs : ∀ xs, still src (G ++ xs) = true)
    (h : ∀ w ∈ ws, ∀ xs, ∃ τ1, g w τ = some τ1 ∧ c τ1 (G ++ xs) = .ok true (G ++ xs) ∧ e τ1 (G ++ xs) = .ok (.tmp (f w)) (G ++ xs)) :
    compF src g c e τ ws G = .ok (locs G.length ws.length) (G ++ ws.map fun w => .lst (f w)) := by
  have key : ∀ (ws' : List W) (xs : GH), (∀ w ∈ ws', w ∈ ws) → compF src g c e τ ws' (G ++ xs) = .ok (locs (G ++ xs).length ws'.length) (G ++ xs ++ ws'.map fun w => .lst (f w)) := by
    intro ws'
    induction ws' with
    | nil => intro xs _; unfold compF; rw [hs xs]; simp [locs]
    | cons w ws' ih =>
      intro xs hw
      obtain ⟨τ1, h1, h2, h3⟩ := h w (hw w List.mem_cons_self) xs
      unfold compF
      have h4 : mF e τ1 (G ++ xs) = .ok (.loc (G ++ xs).length) (G ++ (xs ++ [.lst (f w)])) := by
        rw [mF_at, h3, R.bind_ok, force_tmp, List.append_assoc]
      have h5 := ih (xs ++ [.lst (f w)]) fun u hu => hw u (List.mem_cons_of_mem _ hu)
      rw [hs xs, h1]
      simp only [if_true, h2, R.noEx, R.bind_ok, h4, h5]
      congr 1
      · rw [List.length_cons, locs_succ]
        simp
        congr 1
      · simp
  have := key ws [] fun _ h => h
  simpa using this
/-- .. with a test, no list laid -/
theorem compF_filter {src : Src} {g : MG} {c : M Bool} {e : M T} {τ : Sl} {G : GH} {ws : List W} (p : W → Bool) (f : W → W) (hs : still src G = true)
    (h : ∀ w ∈ ws, ∃ τ1, g w τ = some τ1 ∧ c τ1 G = .ok (p w) G ∧ (p w = true → (e τ1 G).bind force = .ok (f w) G)) : compF src g c e τ ws G = .ok ((ws.filter p).map f) G := by
  induction ws with
  | nil => unfold compF; rw [hs]; rfl
  | cons w ws ih =>
    obtain ⟨τ1, h1, h2, h3⟩ := h w List.mem_cons_self
    have ih' := ih fun u hu => h u (List.mem_cons_of_mem _ hu)
    unfold compF
    rw [hs, h1]
    cases e : p w with
    | true =>
      have h3' : mF _ τ1 G = .ok (f w) G := h3 e
      rw [List.filter_cons, e]
      simp only [if_true, h2, e, R.noEx, R.bind_ok, h3', ih']
      rfl
    | false =>
      rw [List.filter_cons, e]
      simp only [if_true, h2, e, R.noEx, R.bind_ok, ih']
      rfl
theorem compF_paired {β : Type} {src : Src} {g : MG} {c : M Bool} {e : M T} {τ : Sl} {G : GH} {ws : List W} {ys : List β} (F : β → W) (hs : still src G = true)
    (hp : Paired (fun w y => ∃ τ1, g w τ = some τ1 ∧ c τ1 G = .ok true G ∧ (e τ1 G).bind force = .ok (F y) G) ws ys) : compF src g c e τ ws G = .ok (ys.map F) G := by
  induction hp with
  | nil => unfold compF; rw [hs]; rfl
  | cons q t ih =>
    obtain ⟨τ1, h1, h2, h3⟩ := q
    unfold compF
    have h3' : mF e τ1 G = .ok (F _) G := h3
    rw [hs, h1]
    simp only [if_true, h2, R.noEx, R.bind_ok, h3', ih]
    rfl
theorem paired_map {α β γ : Type} {P : γ → β → Prop} {f : α → γ} {xs : List α} {ys : List β} (h : Paired (fun x y => P (f x) y) xs ys) : Paired P (xs.map f) ys := by
  induction h with
  | nil => exact .nil
  | cons q t ih => exact .cons q ih
theorem compF_allocP {β : Type} {src : Src} {g : MG} {c : M Bool} {e : M T} {τ : Sl} {G : GH} {ws : List W} {ys : List β} (F : β → List W) (hs : ∀ xs, still src (G ++ xs) = true)
    (hp : Paired (fun w y => ∀ xs, ∃ τ1, g w τ = some τ1 ∧ c τ1 (G ++ xs) = .ok true (G ++ xs) ∧ e τ1 (G ++ xs) = .ok (.tmp (F y)) (G ++ xs)) ws ys) :
    compF src g c e τ ws G = .ok (locs G.length ys.length) (G ++ ys.map fun y => .lst (F y)) := by
  have key : ∀ (ws' : List W) (ys' : List β) (xs : GH), Paired (fun w y => ∀ xs, ∃ τ1, g w τ = some τ1 ∧ c τ1 (G ++ xs) = .ok true (G ++ xs) ∧ e τ1 (G ++ xs) = .ok (.tmp (F y)) (G ++ xs)) ws' ys' →
      compF src g c e τ ws' (G ++ xs) = .ok (locs (G ++ xs).length ys'.length) (G ++ xs ++ ys'.map fun y => .lst (F y)) := by
    intro ws' ys' xs h
    induction h generalizing xs with
    | nil => unfold compF; rw [hs xs]; simp [locs]
    | @cons w y ws' ys' q t ih =>
      obtain ⟨τ1, h1, h2, h3⟩ := q xs
      unfold compF
      have h4 : mF e τ1 (G ++ xs) = .ok (.loc (G ++ xs).length) (G ++ (xs ++ [.lst (F y)])) := by
        rw [mF_at, h3, R.bind_ok, force_tmp, List.append_assoc]
      have h5 := ih (xs ++ [.lst (F y)])
      rw [hs xs, h1]
      simp only [if_true, h2, R.noEx, R.bind_ok, h4, h5]
      congr 1
      · rw [List.length_cons, locs_succ]
        simp
        congr 1
      · simp
  have := key ws ys [] hp
  simpa using this
theorem fList_loc {G : GH} {n : Nat} {ws : List W} (h : G[n]? = some (.lst ws)) : fList [.val (.loc n)] G = .ok (.tmp ws) G := by
  unfold fList
  simp [h]
theorem fAug_loc {G : GH} {n m : Nat} {us ws : List W} (h : G[n]? = some (.lst us)) (h2 : G[m]? = some (.lst ws)) (hl : us.length + ws.length ≤ 16777216) :
    fAugAdd (.val (.loc n)) (.val (.loc m)) G = .ok (.val (.loc n)) (G.set n (.lst (us ++ ws))) := by
  unfold fAugAdd
  simp [h, h2, hl]
theorem fPop_ok {G : GH} {n : Nat} {us : List W} {w : W} (h : G[n]? = some (.lst (us ++ [w]))) : fPop (.val (.loc n)) [] G = .ok (.val w) (G.set n (.lst us)) := by
  unfold fPop
  simp [h]
theorem iterZ_loc {G : GH} {n m : Nat} {ws us : List W} (h : G[n]? = some (.lst ws)) (h2 : G[m]? = some (.lst us)) : iterZ [.val (.loc n), .val (.loc m)] G = .ok (zipW ws us, [(n, ws), (m, us)]) G := by
  unfold iterZ srcOf
  simp [h, h2]
theorem still_two {n m : Nat} {ws us : List W} {G : GH} (h : G[n]? = some (.lst ws)) (h2 : G[m]? = some (.lst us)) : still [(n, ws), (m, us)] G = true := still_iff.mpr fun p hp => by
  simp at hp
  rcases hp with rfl | rfl
  · simp [h]
  · simp [h2]
/-! changes in a heap by place -/
def bump (w : W) : Option GO → Option GO
  | some (.lst r) => some (.lst (r ++ [w]))
  | o => o
/-- G' is G, but for the lists at some places that have w behind -/
def Bumped (w : W) (G : GH) (ms : List Nat) (G' : GH) : Prop := ∀ j, G'[j]? = if j ∈ ms then bump w G[j]? else G[j]?
theorem cut_nat (ws : List W) (lo hi : Nat) : cutW ws (some (lo : Int)) (some (hi : Int)) = (ws.drop lo).take (hi - lo) := by
  unfold cutW
  rw [HT.sIx_nat, HT.sIx_nat]
  apply List.ext_getElem?
  intro i
  rw [List.getElem?_take, List.getElem?_take, List.getElem?_drop, List.getElem?_drop]
  by_cases h : lo ≤ ws.length
  · rw [Nat.min_eq_left h]
    by_cases h2 : i < hi - lo
    · rw [if_pos h2]
      by_cases h3 : i < min hi ws.length - lo
      · rw [if_pos h3]
      · rw [if_neg h3, List.getElem?_eq_none (by omega)]
    · rw [if_neg h2, if_neg (by omega)]
  · rw [Nat.min_eq_right (show ws.length ≤ lo by omega), if_neg (by omega)]
    by_cases h2 : i < hi - lo
    · rw [if_pos h2, List.getElem?_eq_none (by omega)]
    · rw [if_neg h2]
theorem cut_to (ws : List W) (hi : Nat) : cutW ws none (some (hi : Int)) = ws.take hi := by
  have := cut_nat ws 0 hi
  unfold cutW at this ⊢
  rw [HT.sIx_nat, HT.sIx_nat] at this
  rw [HT.sIx_none, HT.sIx_nat]
  simpa using this
theorem cut_from (ws : List W) (lo : Nat) : cutW ws (some (lo : Int)) none = ws.drop lo := by
  unfold cutW
  rw [HT.sIx_nat, HT.sIx_none]
  by_cases h : lo ≤ ws.length
  · rw [Nat.min_eq_left h, List.take_of_length_le (by rw [List.length_drop]; omega)]
  · rw [Nat.min_eq_right (show ws.length ≤ lo by omega), List.drop_eq_nil_of_le (by omega), List.drop_eq_nil_of_le (by omega)]; simp
theorem fSl_loc {G : GH} {n : Nat} {ws : List W} (h : G[n]? = some (.lst ws)) (lo hi : Option Int) : fSl (.val (.loc n)) lo hi G = .ok (.tmp (cutW ws lo hi)) G := by
  unfold fSl
  simp [h]
theorem eq_same {G : GH} {x y : T} {d : PyData} (h1 : toDT G x = some d) (h2 : toDT G y = some d) (nd : noDict d = true) : fEq x y G = .ok (.val (.bl true)) G := by
  rw [fEq_data h1 h2, eqv_self d nd]
theorem ne_same {G : GH} {x y : T} {d : PyData} (h1 : toDT G x = some d) (h2 : toDT G y = some d) (nd : noDict d = true) : fNe x y G = .ok (.val (.bl false)) G := by
  rw [fNe_data h1 h2, eqv_self d nd]; rfl
theorem RowsAt.set {G : GH} {n j : Nat} {ms : List Nat} {rows : List (List W)} {o : GO} (h : RowsAt G n ms rows) (hn : n ≠ j) (hm : j ∉ ms) : RowsAt (G.set j o) n ms rows := by
  have e : ∀ i, i ≠ j → (G.set j o)[i]? = G[i]? := fun i hi => List.getElem?_set_ne fun z => hi z.symm
  refine ⟨by rw [e n hn]; exact h.top, paired_of h.len fun i m r e1 e2 => ?_⟩
  rw [e m fun z => hm (z ▸ List.mem_of_getElem? e1)]
  exact paired_get h.row i m r e1 e2
/-- parts of a list, k each -/
def chunks {α : Type} (k high : Nat) (is : List α) : List (List α) := (List.range high).map fun y => (is.drop (y * k)).take k
theorem chunks_len {α : Type} (k high : Nat) (is : List α) : (chunks k high is).length = high := by simp [chunks]
theorem chunks_map {α β : Type} (f : α → β) (k high : Nat) (is : List α) : chunks k high (is.map f) = (chunks k high is).map fun r => r.map f := by
  unfold chunks
  rw [List.map_map]
  apply List.map_congr_left
  intro y _
  simp [List.map_take, List.map_drop]
theorem chunks_row {α : Type} {k high : Nat} {is : List α} (h : is.length = high * k) : ∀ r ∈ chunks k high is, r.length = k := by
  intro r hr
  obtain ⟨y, hy, rfl⟩ := List.mem_map.mp hr
  rw [List.mem_range] at hy
  rw [List.length_take, List.length_drop, h]
  have : (y + 1) * k ≤ high * k := Nat.mul_le_mul_right k hy
  rw [Nat.add_mul, Nat.one_mul] at this
  omega
theorem chunks_succ {α : Type} (k high : Nat) (is : List α) : chunks k (high + 1) is = chunks k high is ++ [(is.drop (high * k)).take k] := by
  unfold chunks
  rw [List.range_succ, List.map_append]; rfl
theorem chunks_flat {α : Type} (k high : Nat) (is : List α) : (chunks k high is).flatten = is.take (high * k) := by
  induction high with
  | zero => simp [chunks]
  | succ high ih =>
    rw [chunks_succ, List.flatten_append, ih, Nat.add_mul, Nat.one_mul, List.take_add]
    simp
theorem chunks_mem {α : Type} {k high : Nat} {is : List α} {r : List α} (hr : r ∈ chunks k high is) : ∀ c ∈ r, c ∈ is := by
  intro c hc
  obtain ⟨y, _, rfl⟩ := List.mem_map.mp hr
  exact List.mem_of_mem_drop (List.mem_of_mem_take hc)
theorem toD_str {n : Nat} {G : GH} {x : Str} (h : x.cps.all (· < 0x110000) = true) : toD (n + 1) G (.str x) = some (.str x) := by
  unfold toD
  simp only [h, if_true]
@[simp] theorem toD_int (n : Nat) (G : GH) (i : Int) : toD (n + 1) G (.int i) = some (.int i) := (rfl)
@[simp] theorem toD_bl (n : Nat) (G : GH) (i : Bool) : toD (n + 1) G (.bl i) = some (.bool i) := (rfl)
@[simp] theorem toD_non (n : Nat) (G : GH) : toD (n + 1) G .non = some .none := (rfl)
@[simp] theorem toD_tup (n : Nat) (G : GH) (ws : List W) : toD (n + 1) G (.tup ws) = (mapO (toD n G) ws).map .tuple := (rfl)
@[simp] theorem mapO_nil {α β : Type} (f : α → Option β) : mapO f [] = some [] := (rfl)
@[simp] theorem mapO_cons {α β : Type} (f : α → Option β) (x : α) (xs : List α) : mapO f (x :: xs) = (f x).bind fun y => (mapO f xs).bind fun ys => some (y :: ys) := (rfl)
@[simp] theorem toDT_tup (G : GH) (ws : List W) : toDT G (.val (.tup ws)) = (mapO (toD 8 G) ws).map .tuple := (rfl)
theorem toDT_str {G : GH} {x : Str} (h : x.cps.all (· < 0x110000) = true) : toDT G (.val (.str x)) = some (.str x) := toD_str (n := 8) (G := G) h
theorem refused_ok : ("refused" : Str).cps.all (· < 0x110000) = true := by decide +kernel
theorem mapO_mono {α β : Type} {f g : α → Option β} : ∀ {xs : List α} {ys : List β}, (∀ x ∈ xs, ∀ y, f x = some y → g x = some y) → mapO f xs = some ys → mapO g xs = some ys
  | [], _, _, h => h
  | x :: xs, ys, hf, h => by
    unfold mapO at h ⊢
    cases e1 : f x with
    | none => rw [e1] at h; cases h
    | some y =>
      cases e2 : mapO f xs with
      | none => rw [e1, e2] at h; cases h
      | some zs =>
        rw [e1, e2] at h
        rw [hf x List.mem_cons_self y e1, mapO_mono (fun u hu => hf u (List.mem_cons_of_mem _ hu)) e2]
        exact h
theorem mapO_len {α β : Type} {f : α → Option β} : ∀ {xs : List α} {ys : List β}, mapO f xs = some ys → ys.length = xs.length
  | [], _, h => by cases h; rfl
  | x :: xs, ys, h => by
    unfold mapO at h
    cases e1 : f x with
    | none => rw [e1] at h; cases h
    | some y =>
      cases e2 : mapO f xs with
      | none => rw [e1, e2] at h; cases h
      | some zs =>
        rw [e1, e2] at h
        cases h
        rw [List.length_cons, List.length_cons, mapO_len e2]
theorem mapO_drop {α β : Type} {f : α → Option β} : ∀ (k : Nat) {xs : List α} {ys : List β}, mapO f xs = some ys → mapO f (xs.drop k) = some (ys.drop k)
  | 0, _, _, h => h
  | k + 1, [], _, h => by cases h; rfl
  | k + 1, x :: xs, ys, h => by
    unfold mapO at h
    cases e1 : f x with
    | none => rw [e1] at h; cases h
    | some y =>
      cases e2 : mapO f xs with
      | none => rw [e1, e2] at h; cases h
      | some zs =>
        rw [e1, e2] at h
        cases h
        exact mapO_drop k e2
theorem mapO_app {α β : Type} {f : α → Option β} : ∀ {xs zs : List α} {ys us : List β}, mapO f xs = some ys → mapO f zs = some us → mapO f (xs ++ zs) = some (ys ++ us)
  | [], _, _, _, h, h2 => by cases h; exact h2
  | x :: xs, zs, ys, us, h, h2 => by
    unfold mapO at h
    cases e1 : f x with
    | none => rw [e1] at h; cases h
    | some y =>
      cases e2 : mapO f xs with
      | none => rw [e1, e2] at h; cases h
      | some ws =>
        rw [e1, e2] at h
        cases h
        rw [List.cons_append]
        unfold mapO
        rw [e1, mapO_app e2 h2]; rfl
theorem mapO_some {α β : Type} {f : α → Option β} : ∀ {xs : List α}, (∀ x ∈ xs, ∃ y, f x = some y) → ∃ ys, mapO f xs = some ys
  | [], _ => ⟨[], rfl⟩
  | x :: xs, h => by
    obtain ⟨y, e⟩ := h x List.mem_cons_self
    obtain ⟨ys, e2⟩ := mapO_some (fun u hu => h u (List.mem_cons_of_mem _ hu))
    exact ⟨y :: ys, by unfold mapO; rw [e, e2]; rfl⟩
theorem toD_mono (xs : GH) {G : GH} : ∀ (n : Nat) (w : W) (d : PyData), toD n G w = some d → toD n (G ++ xs) w = some d
  | 0, _, _, h => by cases h
  | n + 1, w, d, h => by
    cases w with
    | non => exact h
    | bl b => exact h
    | int i => exact h
    | str x => exact h
    | tup ws =>
      rw [toD_tup] at h ⊢
      cases e : mapO (toD n G) ws with
      | none => rw [e] at h; cases h
      | some ds => rw [e] at h; rw [mapO_mono (fun u _ y => toD_mono xs n u y) e]; exact h
    | loc k =>
      have h2 : ((rdw G (.loc k)).bind fun ws => (mapO (toD n G) ws).map PyData.list) = some d := h
      show ((rdw (G ++ xs) (.loc k)).bind fun ws => (mapO (toD n (G ++ xs)) ws).map PyData.list) = some d
      rw [rdw_loc] at h2 ⊢
      cases e0 : G[k]? with
      | none => rw [e0] at h2; cases h2
      | some o =>
        rw [get_mono e0 xs]
        rw [e0] at h2
        cases o with
        | lst ws =>
          have h3 : (mapO (toD n G) ws).map PyData.list = some d := h2
          show (mapO (toD n (G ++ xs)) ws).map PyData.list = some d
          cases e : mapO (toD n G) ws with
          | none => rw [e] at h3; cases h3
          | some ds => rw [e] at h3; rw [mapO_mono (fun u _ y => toD_mono xs n u y) e]; exact h3
        | _ => cases h2
    | frl ws =>
      have h3 : (mapO (toD n G) ws).map PyData.list = some d := h
      show (mapO (toD n (G ++ xs)) ws).map PyData.list = some d
      cases e : mapO (toD n G) ws with
      | none => rw [e] at h3; cases h3
      | some ds => rw [e] at h3; rw [mapO_mono (fun u _ y => toD_mono xs n u y) e]; exact h3
    | ty b => exact h
    | cls b => exact h
    | exn c a => exact h
theorem mapD_mono (xs : GH) {G : GH} {n : Nat} {ws : List W} {ds : List PyData} (h : mapO (toD n G) ws = some ds) : mapO (toD n (G ++ xs)) ws = some ds := mapO_mono (fun u _ y => toD_mono xs n u y) h
theorem fIx_tmp {ws : List W} {k : Nat} {w : W} {G : GH} (h : ws[k]? = some w) : fIx (.tmp ws) (.val (.int k)) G = .ok (.val w) G := by
  unfold fIx
  simp [atI_nat h]
end Sy
set_option Elab.async false
set_option linter.all false
set_option maxRecDepth 100000
set_option maxHeartbeats 4000000
namespace Sy
open PySem PySem.Spec PyProof.Rows L2
theorem mod_nat (z : Int) {m : Nat} (h : 0 < m) : ∃ n : Nat, z % m = n ∧ n < m := by
  have h1 := Int.emod_nonneg z (show (m : Int) ≠ 0 by omega)
  have h2 := Int.emod_lt_of_pos z (show (0 : Int) < m by omega)
  obtain ⟨n, hn⟩ := Int.eq_ofNat_of_zero_le h1
  exact ⟨n, hn, by omega⟩
/-! heaps that grow, the old part staying -/
structure Keeps (G G' : GH) : Prop where
  len : G.length ≤ G'.length
  old : ∀ k, k < G.length → G'[k]? = G[k]?
theorem Keeps.refl (G : GH) : Keeps G G := ⟨Nat.le_refl _, fun _ _ => rfl⟩
theorem Keeps.trans {G G1 G2 : GH} (a : Keeps G G1) (b : Keeps G1 G2) : Keeps G G2 := ⟨Nat.le_trans a.len b.len, fun k hk => by rw [b.old k (Nat.lt_of_lt_of_le hk a.len), a.old k hk]⟩
theorem Keeps.app (G xs : GH) : Keeps G (G ++ xs) := ⟨by simp, fun k hk => List.getElem?_append_left hk⟩
theorem Keeps.two {G G1 : GH} (k : Keeps G G1) (xs : GH) : Keeps G (G1 ++ xs) := k.trans (Keeps.app _ _)
theorem Keeps.set {G G' : GH} (h : Keeps G G') {n : Nat} (hn : G.length ≤ n) (o : GO) : Keeps G (G'.set n o) := ⟨by rw [List.length_set]; exact h.len, fun k hk => by rw [List.getElem?_set_ne (by omega), h.old k hk]⟩
theorem Keeps.get {G G' : GH} (h : Keeps G G') {n : Nat} {o : GO} (e : G[n]? = some o) : G'[n]? = some o := by
  rw [h.old n (List.getElem?_eq_some_iff.mp e).1]
  exact e
theorem RowsAt.keep {G G' : GH} {n : Nat} {ms : List Nat} {rows : List (List W)} (h : RowsAt G n ms rows) (k : Keeps G G') : RowsAt G' n ms rows := ⟨k.get h.top, paired_imp h.row fun _ _ e => k.get e⟩
theorem paired_snoc {α β : Type} {P : α → β → Prop} {as : List α} {bs : List β} {a : α} {b : β} (h : Paired P as bs) (q : P a b) : Paired P (as ++ [a]) (bs ++ [b]) := by
  induction h with
  | nil => exact .cons q .nil
  | cons q t ih => exact .cons q ih
theorem RowsAt.snoc {G : GH} {n m : Nat} {ms : List Nat} {rows : List (List W)} {r : List W} (h : RowsAt G n ms rows) (hn : n ∉ ms) (hm : G[m]? = some (.lst r)) (hmn : m ≠ n) : RowsAt (G.set n (.lst (ms.map W.loc ++ [.loc m]))) n (ms ++ [m]) (rows ++ [r]) := by
  have hl : n < G.length := (List.getElem?_eq_some_iff.mp h.top).1
  refine ⟨by rw [List.getElem?_set_self hl]; simp, ?_⟩
  refine paired_snoc (paired_of h.row.length fun i x y e1 e2 => ?_) (by rw [List.getElem?_set_ne (fun z => hmn z.symm)]; exact hm)
  rw [List.getElem?_set_ne (fun z => hn (by rw [z]; exact List.mem_of_getElem? e1))]
  exact paired_get h.row i x y e1 e2
theorem compF_range {g : MG} {c : M Bool} {e : M T} {τ : Sl} {G : GH} {n : Nat} (F : Nat → W) (h : ∀ i : Nat, i < n → ∃ τ1, g (.int i) τ = some τ1 ∧ c τ1 G = .ok true G ∧ (e τ1 G).bind force = .ok (F i) G) :
    compF [] g c e τ (rangeW 0 n) G = .ok ((List.range n).map F) G := by
  refine compF_paired (F := F) still_nil ?_
  refine paired_of (by simp) fun i w y e1 e2 => ?_
  obtain ⟨hi, rfl⟩ := rangeW_get e1
  rw [List.getElem?_range hi] at e2
  cases e2
  rw [Int.zero_add]
  exact h i hi
theorem fIx_mod {ws : List W} {z : Int} {m : Nat} (h0 : 0 < m) (h : ws.length = m) (G : GH) : ∃ u ∈ ws, fIx (.tmp ws) (.val (.int (z % m))) G = .ok (.val u) G := by
  obtain ⟨k, hk, hk2⟩ := mod_nat z h0
  have e : ws[k]? = some ws[k] := List.getElem?_eq_getElem (by omega)
  exact ⟨ws[k], List.getElem_mem _, by rw [hk]; exact fIx_tmp e⟩
theorem last_get (G : GH) (o : GO) : (G ++ [o])[G.length]? = some o := by simp
theorem forL_nx {src : Src} {g : MG} {b : MS} {w : W} {ws : List W} {τ τ1 τ2 : Sl} {G G2 : GH} (hs : still src G = true) (hg : g w τ = some τ1) (hb : b τ1 G = .nx τ2 G2) : forL src g b (w :: ws) τ G = forL src g b ws τ2 G2 := by
  conv => lhs; unfold forL
  rw [hs, hg]
  simp only [if_true, hb]
theorem forL_rt {src : Src} {g : MG} {b : MS} {w v : W} {ws : List W} {τ τ1 : Sl} {G G2 : GH} (hs : still src G = true) (hg : g w τ = some τ1) (hb : b τ1 G = .rt v G2) : forL src g b (w :: ws) τ G = .rt v G2 := by
  conv => lhs; unfold forL
  rw [hs, hg]
  simp only [if_true, hb]
theorem forL_bk {src : Src} {g : MG} {b : MS} {w : W} {ws : List W} {τ τ1 τ2 : Sl} {G G2 : GH} (hs : still src G = true) (hg : g w τ = some τ1) (hb : b τ1 G = .bk τ2 G2) : forL src g b (w :: ws) τ G = .nx τ2 G2 := by
  conv => lhs; unfold forL
  rw [hs, hg]
  simp only [if_true, hb]
theorem forL_ex {src : Src} {g : MG} {b : MS} {w : W} {ws : List W} {τ τ1 τ2 : Sl} {G G2 : GH} {c : Nat} {fs} (hs : still src G = true) (hg : g w τ = some τ1) (hb : b τ1 G = .ex c fs τ2 G2) : forL src g b (w :: ws) τ G = .ex c fs τ2 G2 := by
  conv => lhs; unfold forL
  rw [hs, hg]
  simp only [if_true, hb]
theorem forL_end {src : Src} {g : MG} {b : MS} {τ : Sl} {G : GH} (hs : still src G = true) : forL src g b [] τ G = .nx τ G := by
  unfold forL
  rw [if_pos hs]
/-- a comprehension with a test, over things that are told by others -/
theorem compF_filterP {β : Type} {src : Src} {g : MG} {c : M Bool} {e : M T} {τ : Sl} {G : GH} {ws : List W} {ys : List β} (p : β → Bool) (F : β → W) (hs : still src G = true)
    (hp : Paired (fun w y => ∃ τ1, g w τ = some τ1 ∧ c τ1 G = .ok (p y) G ∧ (p y = true → (e τ1 G).bind force = .ok (F y) G)) ws ys) : compF src g c e τ ws G = .ok ((ys.filter p).map F) G := by
  induction hp with
  | nil => unfold compF; rw [hs]; rfl
  | @cons w y ws ys q t ih =>
    obtain ⟨τ1, h1, h2, h3⟩ := q
    unfold compF
    rw [hs, h1]
    cases e : p y with
    | true =>
      have h3' : mF _ τ1 G = .ok (F y) G := h3 e
      rw [List.filter_cons, e]
      simp only [if_true, h2, e, R.noEx, R.bind_ok, h3', ih]
      rfl
    | false =>
      rw [List.filter_cons, e]
      simp only [if_true, h2, e, R.noEx, R.bind_ok, ih]
      rfl
/-- a thing put behind a list -/
theorem app_one {i L : Nat} {S : M T} {τ : Sl} {G G1 : GH} {t : W} {us : List W} (hi : τ[i]? = some (some (.loc L))) (hG : G[L]? = some (.lst us)) (hS : (S τ G).bind force = .ok t G1) (hL : G1[L]? = some (.lst us)) (hl : us.length < 1000000) :
    sDrop (mMtF isLst fApp (mVar i) (mCons S mNil)) τ G = .nx τ (G1.set L (.lst (us ++ [t]))) := by
  have h1 := isLst_ok hG
  have h2 := fApp_ok (w := t) hL (by omega)
  rw [sDrop_at, mMtF_at, mVar_at, hi, asO_ok, R.bind_ok, if_pos h1, mCons_at, hS]
  simp only [R.bind_ok, mNil_at, h2, R.toS_ok]
/-- a comprehension over a range that lays a list each turn -/
theorem compF_allocR {src : Src} {g : MG} {c : M Bool} {e : M T} {τ : Sl} {G : GH} {n : Nat} (F : Nat → List W) (hs : ∀ xs, still src (G ++ xs) = true)
    (h : ∀ i : Nat, i < n → ∀ xs, ∃ τ1, g (.int i) τ = some τ1 ∧ c τ1 (G ++ xs) = .ok true (G ++ xs) ∧ e τ1 (G ++ xs) = .ok (.tmp (F i)) (G ++ xs)) :
    compF src g c e τ (rangeW 0 n) G = .ok (locs G.length n) (G ++ (List.range n).map fun i => GO.lst (F i)) := by
  have hp : Paired (fun w i => ∀ xs, ∃ τ1, g w τ = some τ1 ∧ c τ1 (G ++ xs) = .ok true (G ++ xs) ∧ e τ1 (G ++ xs) = .ok (.tmp (F i)) (G ++ xs)) (rangeW 0 n) (List.range n) := by
    refine paired_of (by simp) fun i w k e1 e2 => ?_
    obtain ⟨h1, rfl⟩ := rangeW_get e1
    rw [List.getElem?_range h1] at e2
    cases e2
    intro xs
    rw [Int.zero_add]
    exact h i h1 xs
  rw [compF_allocP F hs hp, List.length_range]
/-- a comprehension over a range in a heap that grows -/
theorem compF_grow {src : Src} {g : MG} {c : M Bool} {e : M T} {τ : Sl} {G : GH} {n : Nat} (p : Nat → Bool) (F : Nat → W) (hs : ∀ G', Keeps G G' → still src G' = true)
    (h : ∀ i : Nat, i < n → ∀ G', Keeps G G' → ∃ τ1 G2 G3, g (.int i) τ = some τ1 ∧ c τ1 G' = .ok (p i) G2 ∧ Keeps G' G2 ∧ Keeps G2 G3 ∧ (p i = true → (e τ1 G2).bind force = .ok (F i) G3)) :
    ∃ G', Keeps G G' ∧ compF src g c e τ (rangeW 0 n) G = .ok (((List.range n).filter p).map F) G' := by
  have key : ∀ (ks : List Nat), (∀ k ∈ ks, k < n) → ∀ G1, Keeps G G1 → ∃ G', Keeps G1 G' ∧ compF src g c e τ (ks.map fun i : Nat => W.int i) G1 = .ok ((ks.filter p).map F) G' := by
    intro ks
    induction ks with
    | nil =>
      intro _ G1 k1
      refine ⟨G1, Keeps.refl _, ?_⟩
      show compF src g c e τ [] G1 = _
      unfold compF
      rw [hs G1 k1]
      rfl
    | cons k ks ih =>
      intro hk G1 k1
      obtain ⟨τ1, G2, G3, h1, h2, k2, k3, h3⟩ := h k (hk k List.mem_cons_self) G1 k1
      rw [List.map_cons]
      unfold compF
      rw [hs G1 k1, h1]
      cases e0 : p k with
      | true =>
        rw [e0] at h2
        obtain ⟨G4, k4, h4⟩ := ih (fun j hj => hk j (List.mem_cons_of_mem _ hj)) G3 ((k1.trans k2).trans k3)
        have h3' : mF e τ1 G2 = .ok (F k) G3 := h3 e0
        refine ⟨G4, (k2.trans k3).trans k4, ?_⟩
        rw [List.filter_cons, e0]
        simp only [if_true, h2, R.noEx, R.bind_ok, h3', h4]
        rfl
      | false =>
        rw [e0] at h2
        obtain ⟨G4, k4, h4⟩ := ih (fun j hj => hk j (List.mem_cons_of_mem _ hj)) G2 (k1.trans k2)
        refine ⟨G4, k2.trans k4, ?_⟩
        rw [List.filter_cons, e0]
        simp only [if_true, h2, R.noEx, R.bind_ok, h4]
        rfl
  have e1 : rangeW 0 n = (List.range n).map fun i : Nat => W.int i := by
    unfold rangeW
    exact List.map_congr_left fun i _ => by rw [Int.zero_add]
  rw [e1]
  exact key _ (fun k hk => List.mem_range.mp hk) G (Keeps.refl _)
/-- a comprehension over a range that tells places, in a heap that grows -/
theorem compF_growL {src : Src} {g : MG} {c : M Bool} {e : M T} {τ : Sl} {G : GH} {n : Nat} (P : GH → Nat → Nat → Prop) (mono : ∀ G1 G2 i v, Keeps G1 G2 → P G1 i v → P G2 i v) (hs : ∀ G', Keeps G G' → still src G' = true)
    (h : ∀ i : Nat, i < n → ∀ G', Keeps G G' → ∃ τ1 G2 v, g (.int i) τ = some τ1 ∧ c τ1 G' = .ok true G' ∧ (e τ1 G').bind force = .ok (.loc v) G2 ∧ Keeps G' G2 ∧ P G2 i v) :
    ∃ vs G', compF src g c e τ (rangeW 0 n) G = .ok (vs.map W.loc) G' ∧ Keeps G G' ∧ Paired (fun v i => P G' i v) vs (List.range n) := by
  have key : ∀ (ks : List Nat), (∀ k ∈ ks, k < n) → ∀ G1, Keeps G G1 → ∃ vs G', compF src g c e τ (ks.map fun i : Nat => W.int i) G1 = .ok (vs.map W.loc) G' ∧ Keeps G1 G' ∧ Paired (fun v i => P G' i v) vs ks := by
    intro ks
    induction ks with
    | nil =>
      intro _ G1 k1
      refine ⟨[], G1, ?_, Keeps.refl _, .nil⟩
      show compF src g c e τ [] G1 = _
      unfold compF
      rw [hs G1 k1]
      rfl
    | cons k ks ih =>
      intro hk G1 k1
      obtain ⟨τ1, G2, v, h1, h2, h3, k2, hp⟩ := h k (hk k List.mem_cons_self) G1 k1
      obtain ⟨vs, G3, h4, k3, h5⟩ := ih (fun j hj => hk j (List.mem_cons_of_mem _ hj)) G2 (k1.trans k2)
      have h3' : mF e τ1 G1 = .ok (.loc v) G2 := h3
      refine ⟨v :: vs, G3, ?_, k2.trans k3, .cons (mono _ _ _ _ k3 hp) h5⟩
      rw [List.map_cons]
      unfold compF
      rw [hs G1 k1, h1]
      simp only [if_true, h2, R.noEx, R.bind_ok, h3', h4]
      rfl
  have e1 : rangeW 0 n = (List.range n).map fun i : Nat => W.int i := by
    unfold rangeW
    exact List.map_congr_left fun i _ => by rw [Int.zero_add]
  rw [e1]
  exact key _ (fun k hk => List.mem_range.mp hk) G (Keeps.refl _)
/-- a comprehension that tells new places, each behind the ones ahead -/
theorem compF_growX {src : Src} {g : MG} {c : M Bool} {e : M T} {τ : Sl} {G : GH} {ws : List W} (P : GH → Nat → Nat → Prop) (mono : ∀ G1 G2 i v, Keeps G1 G2 → P G1 i v → P G2 i v) (hs : ∀ G', Keeps G G' → still src G' = true)
    (h : ∀ (i : Nat) w, ws[i]? = some w → ∀ G', Keeps G G' → ∃ τ1 G2 v, g w τ = some τ1 ∧ c τ1 G' = .ok true G' ∧ (e τ1 G').bind force = .ok (.loc v) G2 ∧ Keeps G' G2 ∧ G'.length ≤ v ∧ v < G2.length ∧ P G2 i v) :
    ∃ (vs : List Nat) (G' : GH), compF src g c e τ ws G = .ok (vs.map W.loc) G' ∧ Keeps G G' ∧ vs.length = ws.length ∧ vs.Nodup ∧ (∀ v ∈ vs, G.length ≤ v ∧ v < G'.length) ∧ ∀ (i : Nat) v, vs[i]? = some v → P G' i v := by
  have key : ∀ (us : List W) (j : Nat), (∀ (i : Nat) w, us[i]? = some w → ws[j + i]? = some w) → ∀ G1, Keeps G G1 → ∃ (vs : List Nat) (G' : GH), compF src g c e τ us G1 = .ok (vs.map W.loc) G' ∧ Keeps G1 G' ∧ vs.length = us.length ∧ vs.Nodup ∧ (∀ v ∈ vs, G1.length ≤ v ∧ v < G'.length) ∧ ∀ (i : Nat) v, vs[i]? = some v → P G' (j + i) v := by
    intro us
    induction us with
    | nil =>
      intro j _ G1 k1
      refine ⟨[], G1, ?_, Keeps.refl _, rfl, List.nodup_nil, by simp, by simp⟩
      unfold compF
      rw [hs G1 k1]
      rfl
    | cons u us ih =>
      intro j hu G1 k1
      obtain ⟨τ1, G2, v, h1, h2, h3, k2, b1, b2, hp⟩ := h j u (hu 0 u rfl) G1 k1
      obtain ⟨vs, G3, h4, k3, hl, nd, hb, hq⟩ := ih (j + 1) (fun i w e => by have := hu (i + 1) w (by simpa using e); rwa [show j + (i + 1) = j + 1 + i by omega] at this) G2 (k1.trans k2)
      have h3' : mF e τ1 G1 = .ok (.loc v) G2 := h3
      have := k2.len
      have := k3.len
      refine ⟨v :: vs, G3, ?_, k2.trans k3, by rw [List.length_cons, List.length_cons, hl], List.nodup_cons.mpr ⟨fun hm => ?_, nd⟩, fun x hx => ?_, fun i x hx => ?_⟩
      · unfold compF
        rw [hs G1 k1, h1]
        simp only [if_true, h2, R.noEx, R.bind_ok, h3', h4]
        rfl
      · have := hb v hm
        omega
      · rcases List.mem_cons.mp hx with rfl | hx
        · omega
        · have := hb x hx
          omega
      · cases i with
        | zero =>
          cases hx
          exact mono _ _ _ _ k3 hp
        | succ i =>
          have := hq i x (by simpa using hx)
          rwa [show j + 1 + i = j + (i + 1) by omega] at this
  obtain ⟨vs, G', a, b, c', d, e', f⟩ := key ws 0 (fun i w e => by rw [Nat.zero_add]; exact e) G (Keeps.refl _)
  exact ⟨vs, G', a, b, c', d, e', fun i v hv => by have := f i v hv; rwa [Nat.zero_add] at this⟩
end Sy
set_option Elab.async false
set_option linter.all false
set_option maxRecDepth 100000
namespace N5
open PySem PyProof.Rows
theorem tb (n i : Nat) : n.testBit i = decide (n / 2 ^ i % 2 = 1) := Nat.testBit_eq_decide_div_mod_eq
theorem and_pow2 (n i : Nat) : n &&& 2 ^ i = if n.testBit i then 2 ^ i else 0 := by
  apply Nat.eq_of_testBit_eq
  intro j
  rw [Nat.testBit_and, Nat.testBit_two_pow]
  by_cases h : i = j
  · subst h
    cases e : n.testBit i <;> simp
  · cases e : n.testBit i <;> simp [h]
theorem band_nat (a b : Nat) : Builtin.bitAnd (a : Int) (b : Int) = ((a &&& b : Nat) : Int) := by
  first
  | exact PySem.W.os_band a b
  | exact PySem.W.os_band
def plB (k n : Nat) : List Nat := (List.range k).filter n.testBit
theorem plB_snoc (k n : Nat) : plB (k + 1) n = plB k n ++ if n.testBit k then [k] else [] := by
  unfold plB
  rw [List.range_succ, List.filter_append]
  congr 1
  cases e : n.testBit k <;> simp [e]
theorem plB_cut {n p : Nat} (h : n < 2 ^ p) (k : Nat) : plB (p + k) n = plB p n := by
  induction k with
  | zero => rfl
  | succ k ih =>
    rw [← Nat.add_assoc, plB_snoc, ih, Nat.testBit_lt_two_pow (Nat.lt_of_lt_of_le h (Nat.pow_le_pow_right (by decide) (Nat.le_add_right p k)))]
    simp
theorem plB_eq {n p k : Nat} (h : n < 2 ^ p) (hk : p ≤ k) : plB k n = plB p n := by
  have := plB_cut h (k - p)
  rwa [Nat.add_sub_cancel' hk] at this
theorem plB_mem {n k i : Nat} : i ∈ plB k n ↔ i < k ∧ n.testBit i = true := by
  unfold plB
  simp
theorem testBit_div (n i : Nat) : n / 2 ^ i % 2 = if n.testBit i then 1 else 0 := by
  rw [tb]
  by_cases h : n / 2 ^ i % 2 = 1
  · simp [h]
  · have : n / 2 ^ i % 2 = 0 := by omega
    simp [this]
theorem plB_len_succ (k n : Nat) : (plB (k + 1) n).length = n % 2 + (plB k (n / 2)).length := by
  unfold plB
  rw [List.range_succ_eq_map, List.filter_cons, List.filter_map]
  have e : (n.testBit ∘ Nat.succ) = (n / 2).testBit := by
    funext i
    show n.testBit (i + 1) = _
    rw [Nat.testBit_succ]
  have h0 := testBit_div n 0
  rw [Nat.pow_zero, Nat.div_one] at h0
  rw [e, h0]
  cases n.testBit 0 <;> simp <;> omega
theorem and_pred_odd {n : Nat} (h : n % 2 = 1) : n &&& (n - 1) = n - 1 := by
  apply Nat.eq_of_testBit_eq
  intro j
  rw [Nat.testBit_and]
  cases j with
  | zero =>
    have : (n - 1) % 2 = 0 := by omega
    simp [Nat.testBit_zero, this]
  | succ j =>
    rw [Nat.testBit_succ, Nat.testBit_succ, show (n - 1) / 2 = n / 2 by omega, Bool.and_self]
theorem and_half (a b : Nat) : (a &&& b) / 2 = a / 2 &&& b / 2 := by
  apply Nat.eq_of_testBit_eq
  intro j
  rw [Nat.testBit_and, ← Nat.testBit_succ, Nat.testBit_and, Nat.testBit_succ, Nat.testBit_succ]
theorem plB_pred {k : Nat} : ∀ {m : Nat}, 0 < m → m < 2 ^ k → (plB k (m &&& (m - 1))).length + 1 = (plB k m).length := by
  induction k with
  | zero => intro m h0 h; simp at h; omega
  | succ k ih =>
    intro m h0 h
    rw [plB_len_succ, plB_len_succ]
    have hp : m / 2 < 2 ^ k := by rw [Nat.pow_succ] at h; omega
    rcases Nat.mod_two_eq_zero_or_one m with e | e
    · have h1 : (m &&& (m - 1)) % 2 = 0 := by
        have h2 : (m &&& (m - 1)).testBit 0 = false := by rw [Nat.testBit_and, Nat.testBit_zero, e]; rfl
        rw [Nat.testBit_zero] at h2
        have := of_decide_eq_false h2
        omega
      rw [h1, and_half, show (m - 1) / 2 = m / 2 - 1 by omega, e]
      have := ih (m := m / 2) (by omega) hp
      omega
    · rw [and_pred_odd e, show (m - 1) % 2 = 0 by omega, show (m - 1) / 2 = m / 2 by omega, e]
      omega
theorem plB_len_le (k n : Nat) : (plB k n).length ≤ k := by
  unfold plB
  have := List.length_filter_le n.testBit (List.range k)
  rwa [List.length_range] at this
/-! turned -/
def revB : Nat → Nat → Nat
  | 0, _ => 0
  | k + 1, n => 2 * revB k n + n / 2 ^ k % 2
theorem revB_lt (k n : Nat) : revB k n < 2 ^ k := by
  induction k with
  | zero => exact Nat.one_pos
  | succ k ih =>
    have r : revB (k + 1) n = 2 * revB k n + n / 2 ^ k % 2 := rfl
    rw [r, Nat.pow_succ]
    have := Nat.mod_lt (n / 2 ^ k) (show 2 > 0 by decide)
    omega
theorem revB_bit (k n i : Nat) : (revB k n).testBit i = (decide (i < k) && n.testBit (k - 1 - i)) := by
  induction k generalizing i with
  | zero => simp [revB]
  | succ k ih =>
    have r : revB (k + 1) n = 2 * revB k n + n / 2 ^ k % 2 := rfl
    rw [r]
    cases i with
    | zero =>
      rw [Nat.testBit_zero, tb]
      have e : (2 * revB k n + n / 2 ^ k % 2) % 2 = n / 2 ^ k % 2 := by omega
      rw [e]
      simp
    | succ i =>
      rw [Nat.testBit_succ, show (2 * revB k n + n / 2 ^ k % 2) / 2 = revB k n by omega, ih]
      have e : k + 1 - 1 - (i + 1) = k - 1 - i := by omega
      rw [e]
      simp
theorem revB_revB {k n : Nat} (h : n < 2 ^ k) : revB k (revB k n) = n := by
  apply Nat.eq_of_testBit_eq
  intro i
  rw [revB_bit, revB_bit]
  by_cases hi : i < k
  · have h1 : k - 1 - i < k := by omega
    have h2 : k - 1 - (k - 1 - i) = i := by omega
    simp [hi, h1, h2]
  · have : n.testBit i = false := Nat.testBit_lt_two_pow (Nat.lt_of_lt_of_le h (Nat.pow_le_pow_right (by decide) (by omega)))
    simp [hi, this]
theorem revB_sum {w n : Nat} : ∀ k, k ≤ w → ((plB k n).map fun p => 2 ^ (w - 1 - p)).sum = 2 ^ (w - k) * revB k n := by
  intro k
  induction k with
  | zero => intro _; simp [plB, revB]
  | succ k ih =>
    intro hk
    have r : revB (k + 1) n = 2 * revB k n + n / 2 ^ k % 2 := rfl
    rw [plB_snoc, List.map_append, List.sum_append, ih (by omega), r, testBit_div]
    have e : w - k = (w - (k + 1)) + 1 := by omega
    have e2 : w - 1 - k = w - (k + 1) := by omega
    rw [e, Nat.pow_succ]
    cases n.testBit k
    · simp [Nat.mul_assoc]
    · simp [Nat.mul_add, Nat.mul_assoc, e2]
theorem or_bit (a b : Nat) (h : b < 2) : 2 * a ||| b = 2 * a + b := by
  have := Nat.two_pow_add_eq_or_of_lt (i := 1) (b := b) (by simpa using h) a
  simpa using this.symm
end N5
set_option Elab.async false
set_option linter.all false
set_option maxRecDepth 100000
namespace N7
def movR (wide : Nat) (right : Int) (r : Nat) : Nat := if right < 0 then r / 2 ^ (-right).toNat else r * 2 ^ right.toNat % 2 ^ wide
theorem pow_mod_zero {a b : Nat} (h : b ≤ a) : 2 ^ a % 2 ^ b = 0 := Nat.mod_eq_zero_of_dvd (Nat.pow_dvd_pow 2 h)
theorem movR_step {wide k a : Nat} {right : Int} (ha : a < 2 ^ k) (hk : k < wide) : movR wide right (a + 2 ^ k) = movR wide right a + if 0 ≤ (k : Int) + right ∧ (k : Int) + right < wide then 2 ^ ((k : Int) + right).toNat else 0 := by
  unfold movR
  by_cases hr : right < 0
  · rw [if_pos hr, if_pos hr]
    obtain ⟨m, hm⟩ := Int.eq_ofNat_of_zero_le (show 0 ≤ -right by omega)
    have hm' : right = -(m : Int) := by omega
    subst hm'
    rw [Int.neg_neg, Int.toNat_natCast]
    by_cases h0 : m ≤ k
    · rw [if_pos ⟨by omega, by omega⟩]
      have e1 : ((k : Int) + -(m : Int)).toNat = k - m := by omega
      rw [e1]
      have e2 : 2 ^ k = 2 ^ (k - m) * 2 ^ m := by rw [← Nat.pow_add]; congr 1; omega
      rw [e2, Nat.add_mul_div_right _ _ (Nat.pow_pos (by decide))]
    · rw [if_neg fun z => by have := z.1; omega]
      have h2 : 2 ^ (k + 1) ≤ 2 ^ m := Nat.pow_le_pow_right (by decide) (by omega)
      rw [Nat.pow_succ] at h2
      rw [Nat.div_eq_of_lt (by omega), Nat.div_eq_of_lt (by omega)]
  · rw [if_neg hr, if_neg hr]
    obtain ⟨m, rfl⟩ := Int.eq_ofNat_of_zero_le (show 0 ≤ right by omega)
    rw [Int.toNat_natCast, Nat.add_mul, ← Nat.pow_add]
    by_cases h0 : k + m < wide
    · rw [if_pos ⟨by omega, by omega⟩]
      have e1 : ((k : Int) + (m : Int)).toNat = k + m := by omega
      rw [e1]
      have h1 : a * 2 ^ m < 2 ^ k * 2 ^ m := Nat.mul_lt_mul_of_pos_right ha (Nat.pow_pos (by decide))
      rw [← Nat.pow_add] at h1
      have h2 : 2 ^ (k + m + 1) ≤ 2 ^ wide := Nat.pow_le_pow_right (by decide) (by omega)
      rw [Nat.pow_succ] at h2
      rw [Nat.mod_eq_of_lt (by omega), Nat.mod_eq_of_lt (by omega)]
    · rw [if_neg fun z => h0 (by have := z.2; omega)]
      rw [Nat.add_mod, pow_mod_zero (show wide ≤ k + m by omega), Nat.add_zero, Nat.mod_mod]
theorem mod_succ (r k : Nat) : r % 2 ^ (k + 1) = r % 2 ^ k + if r.testBit k then 2 ^ k else 0 := by
  rw [Nat.pow_succ, Nat.mod_mul, Nat.testBit_eq_decide_div_mod_eq]
  by_cases h : r / 2 ^ k % 2 = 1
  · simp [h]
  · have : r / 2 ^ k % 2 = 0 := by omega
    simp [this]
/-- inside the width -/
abbrev ins (wide : Nat) (right : Int) (x : Nat) : Bool := decide (0 ≤ (x : Int) + right ∧ (x : Int) + right < wide)
theorem movR_zero (wide : Nat) (right : Int) : movR wide right 0 = 0 := by
  unfold movR
  split <;> simp
theorem row_sum (wide : Nat) (right : Int) (r : Nat) : ∀ k, k ≤ wide → ((((List.range k).filter r.testBit).filter (ins wide right)).map fun (x : Nat) => 2 ^ ((x : Int) + right).toNat).sum = movR wide right (r % 2 ^ k) := by
  intro k
  induction k with
  | zero => intro _; simp [Nat.mod_one, movR_zero]
  | succ k ih =>
    intro hk
    rw [List.range_succ, List.filter_append, List.filter_append, List.map_append, List.sum_append, ih (by omega), mod_succ]
    by_cases hb : r.testBit k = true
    · rw [if_pos hb, movR_step (Nat.mod_lt _ (Nat.pow_pos (by decide))) hk]
      congr 1
      by_cases hi : 0 ≤ (k : Int) + right ∧ (k : Int) + right < wide
      · simp [hb, ins, hi]
      · simp [hb, ins, hi]
    · have hb' : r.testBit k = false := by simpa using hb
      rw [if_neg hb, Nat.add_zero]
      simp [hb']
/-! places -/
abbrev Pl := List (Nat × Nat)
def rowP (wide y r : Nat) : Pl := ((List.range wide).filter r.testBit).map fun x => (x, y)
def placesP (wide : Nat) (rows : List Nat) (k : Nat) : Pl := (List.range k).flatMap fun y => rowP wide y (rows.getD y 0)
theorem placesP_succ (wide : Nat) (rows : List Nat) (k : Nat) : placesP wide rows (k + 1) = placesP wide rows k ++ rowP wide k (rows.getD k 0) := by
  unfold placesP
  rw [List.range_succ, List.flatMap_append]
  simp
def ins2 (wide high : Nat) (right down : Int) (p : Nat × Nat) : Bool := decide (0 ≤ (p.1 : Int) + right ∧ (p.1 : Int) + right < wide) && decide (0 ≤ (p.2 : Int) + down ∧ (p.2 : Int) + down < high)
def shift (right down : Int) (p : Nat × Nat) : Nat × Nat := (((p.1 : Int) + right).toNat, ((p.2 : Int) + down).toNat)
def movedP (wide high : Nat) (right down : Int) (ps : Pl) : Pl := (ps.filter (ins2 wide high right down)).map (shift right down)
def sumAt (ps : Pl) (y : Nat) : Nat := ((ps.filter fun p => p.2 = y).map fun p => 2 ^ p.1).sum
theorem sumAt_app (ps qs : Pl) (y : Nat) : sumAt (ps ++ qs) y = sumAt ps y + sumAt qs y := by
  unfold sumAt
  rw [List.filter_append, List.map_append, List.sum_append]
theorem movedP_app (wide high : Nat) (right down : Int) (ps qs : Pl) : movedP wide high right down (ps ++ qs) = movedP wide high right down ps ++ movedP wide high right down qs := by
  unfold movedP
  rw [List.filter_append, List.map_append]
theorem sumAt_row {wide high y r y' : Nat} {right down : Int} (hr : r < 2 ^ wide) (hy : y' < high) : sumAt (movedP wide high right down (rowP wide y r)) y' = if (y : Int) + down = y' then movR wide right r else 0 := by
  unfold sumAt movedP rowP
  rw [List.filter_map, List.map_map, List.filter_map, List.filter_map, List.map_map]
  by_cases h : (y : Int) + down = y'
  · rw [if_pos h]
    have := row_sum wide right r wide (Nat.le_refl _)
    rw [Nat.mod_eq_of_lt hr] at this
    rw [← this]
    congr 1
    have e1 : ((List.range wide).filter r.testBit).filter (ins2 wide high right down ∘ fun x => (x, y)) = ((List.range wide).filter r.testBit).filter (ins wide right) := by
      apply List.filter_congr
      intro x _
      show ins2 wide high right down (x, y) = ins wide right x
      unfold ins2 ins
      rw [decide_eq_true (show 0 ≤ ((x, y).2 : Int) + down ∧ ((x, y).2 : Int) + down < high from ⟨by show 0 ≤ (y : Int) + down; omega, by show (y : Int) + down < high; omega⟩), Bool.and_true]
    rw [e1]
    have e2 : ∀ l : List Nat, l.filter (((fun p : Nat × Nat => decide (p.2 = y')) ∘ shift right down) ∘ fun x => (x, y)) = l := by
      intro l
      rw [List.filter_eq_self]
      intro x _
      show decide (((y : Int) + down).toNat = y') = true
      exact decide_eq_true (by omega)
    rw [e2]
    rfl
  · rw [if_neg h]
    have e2 : ∀ l : List Nat, (∀ x ∈ l, ins2 wide high right down (x, y) = true) → l.filter (((fun p : Nat × Nat => decide (p.2 = y')) ∘ shift right down) ∘ fun x => (x, y)) = [] := by
      intro l hl
      rw [List.filter_eq_nil_iff]
      intro x hx
      have h2 := hl x hx
      unfold ins2 at h2
      rw [Bool.and_eq_true] at h2
      have h3 := of_decide_eq_true h2.2
      show ¬ decide (((y : Int) + down).toNat = y') = true
      intro z
      have z2 := of_decide_eq_true z
      have h4 : 0 ≤ (y : Int) + down := h3.1
      exact h (by omega)
    rw [e2 ((List.filter (ins2 wide high right down ∘ fun x => (x, y)) (List.filter r.testBit (List.range wide)))) fun x hx => (List.mem_filter.mp hx).2]
    rfl
def rowAt (rows : List Nat) (y : Int) : Nat := if 0 ≤ y ∧ y < rows.length then rows.getD y.toNat 0 else 0
theorem sumAt_places {wide : Nat} {rows : List Nat} {right down : Int} {y' : Nat} (hr : ∀ r ∈ rows, r < 2 ^ wide) (hy : y' < rows.length) : ∀ k, k ≤ rows.length → sumAt (movedP wide rows.length right down (placesP wide rows k)) y' = if 0 ≤ (y' : Int) - down ∧ (y' : Int) - down < k then movR wide right (rowAt rows ((y' : Int) - down)) else 0 := by
  intro k
  induction k with
  | zero =>
    intro _
    rw [if_neg (by omega)]
    rfl
  | succ k ih =>
    intro hk
    have hkr : rows.getD k 0 < 2 ^ wide := by
      rw [List.getD_eq_getElem?_getD, List.getElem?_eq_getElem (by omega)]
      exact hr _ (List.getElem_mem _)
    rw [placesP_succ, movedP_app, sumAt_app, ih (by omega), sumAt_row hkr hy]
    by_cases h : (k : Int) + down = y'
    · have e : (y' : Int) - down = k := by omega
      rw [if_pos h, e, if_neg (by omega), if_pos ⟨by omega, by omega⟩, Nat.zero_add]
      congr 1
      unfold rowAt
      rw [if_pos ⟨by omega, by omega⟩, Int.toNat_natCast]
    · rw [if_neg h, Nat.add_zero]
      by_cases h2 : 0 ≤ (y' : Int) - down ∧ (y' : Int) - down < k
      · rw [if_pos h2, if_pos ⟨h2.1, by omega⟩]
      · rw [if_neg h2, if_neg fun z => h2 ⟨z.1, by omega⟩]
def rowsOf (ps : Pl) (high : Nat) : List Nat := (List.range high).map (sumAt ps)
def movM (wide : Nat) (right down : Int) (rows : List Nat) : List Nat := (List.range rows.length).map fun (y : Nat) => movR wide right (rowAt rows ((y : Int) - down))
theorem moved_rows {wide : Nat} {rows : List Nat} {right down : Int} (hr : ∀ r ∈ rows, r < 2 ^ wide) : rowsOf (movedP wide rows.length right down (placesP wide rows rows.length)) rows.length = movM wide right down rows := by
  unfold rowsOf movM
  apply List.map_congr_left
  intro y hy
  rw [List.mem_range] at hy
  rw [sumAt_places hr hy rows.length (Nat.le_refl _)]
  by_cases h : 0 ≤ (y : Int) - down ∧ (y : Int) - down < rows.length
  · rw [if_pos h]
  · rw [if_neg h]
    unfold rowAt
    rw [if_neg h, movR_zero]
/-- two steps to one side -/
theorem movR_two {wide r a b : Nat} : movR wide (b : Int) (movR wide (a : Int) r) = movR wide ((a + b : Nat) : Int) r := by
  unfold movR
  rw [if_neg (by omega), if_neg (by omega), if_neg (by omega), Int.toNat_natCast, Int.toNat_natCast, Int.toNat_natCast, Nat.pow_add, ← Nat.mul_assoc]
  rw [Nat.mul_mod (r * 2 ^ a % 2 ^ wide), Nat.mod_mod, ← Nat.mul_mod]
theorem movM_len (wide : Nat) (right down : Int) (rows : List Nat) : (movM wide right down rows).length = rows.length := by simp [movM]
theorem movM_two {wide a b c d : Nat} {rows : List Nat} : movM wide (b : Int) (d : Int) (movM wide (a : Int) (c : Int) rows) = movM wide ((a + b : Nat) : Int) ((c + d : Nat) : Int) rows := by
  have hl := movM_len wide (a : Int) (c : Int) rows
  show (List.range (movM wide (a : Int) (c : Int) rows).length).map _ = (List.range rows.length).map _
  rw [hl]
  apply List.map_congr_left
  intro y hy
  rw [List.mem_range] at hy
  by_cases h : d ≤ y
  · have e1 : rowAt (movM wide (a : Int) (c : Int) rows) ((y : Int) - (d : Int)) = movR wide a (rowAt rows ((y - d : Nat) - (c : Int))) := by
      unfold rowAt
      rw [hl, if_pos ⟨by omega, by omega⟩]
      have e2 : ((y : Int) - (d : Int)).toNat = y - d := by omega
      rw [e2, List.getD_eq_getElem?_getD]
      unfold movM
      rw [List.getElem?_map, List.getElem?_range (by omega)]
      rfl
    rw [e1, movR_two]
    congr 2
    omega
  · have e1 : rowAt (movM wide (a : Int) (c : Int) rows) ((y : Int) - (d : Int)) = 0 := by
      unfold rowAt
      rw [if_neg (by omega)]
    have e2 : rowAt rows ((y : Int) - ((c + d : Nat) : Int)) = 0 := by
      unfold rowAt
      rw [if_neg (by omega)]
    rw [e1, e2, movR_zero, movR_zero]
end N7
set_option linter.all false
set_option maxRecDepth 100000
namespace N6
open N5 N7
/-! numbers of the bits for which p holds -/
def sumF (p : Nat → Bool) (k : Nat) : Nat := (((List.range k).filter p).map fun x => 2 ^ x).sum
theorem sumF_succ (p : Nat → Bool) (k : Nat) : sumF p (k + 1) = sumF p k + if p k then 2 ^ k else 0 := by
  unfold sumF
  rw [List.range_succ, List.filter_append, List.map_append, List.sum_append]
  cases h : p k <;> simp [h]
theorem sumF_lt (p : Nat → Bool) : ∀ k, sumF p k < 2 ^ k
  | 0 => by simp [sumF]
  | k + 1 => by
    rw [sumF_succ, Nat.pow_succ]
    have := sumF_lt p k
    split <;> omega
theorem sumF_bit (p : Nat → Bool) (i : Nat) : ∀ k, (sumF p k).testBit i = (decide (i < k) && p i)
  | 0 => by simp [sumF]
  | k + 1 => by
    rw [sumF_succ]
    have ih := sumF_bit p i k
    have hl := sumF_lt p k
    cases hp : p k with
    | false =>
      simp only [Bool.false_eq_true, if_false, Nat.add_zero, ih]
      by_cases e : i = k
      · subst e; simp [hp]
      · by_cases h : i < k
        · simp [h, show i < k + 1 by omega]
        · simp [h, show ¬ i < k + 1 by omega]
    | true =>
      simp only [if_true]
      rw [Nat.add_comm, show 2 ^ k + sumF p k = 2 ^ k ||| sumF p k by have := Nat.two_pow_add_eq_or_of_lt hl 1; rwa [Nat.mul_one] at this, Nat.testBit_or, ih, Nat.testBit_two_pow]
      by_cases e : i = k
      · subst e; simp [hp]
      · by_cases h : i < k
        · simp [h, show i < k + 1 by omega, show ¬ k = i by omega]
        · simp [h, show ¬ i < k + 1 by omega, show ¬ k = i by omega]
theorem sumF_add {p q : Nat → Bool} : ∀ {k : Nat}, (∀ x, x < k → (p x && q x) = false) → sumF p k + sumF q k = sumF (fun x => p x || q x) k
  | 0, _ => rfl
  | k + 1, h => by
    have ih := sumF_add (p := p) (q := q) (k := k) fun x hx => h x (by omega)
    rw [sumF_succ, sumF_succ, sumF_succ, ← ih]
    have := h k (by omega)
    cases hp : p k <;> cases hq : q k <;> simp_all <;> omega
theorem sumF_of {p : Nat → Bool} {r wide : Nat} (h : r < 2 ^ wide) (hp : ∀ x, x < wide → p x = r.testBit x) : sumF p wide = r := by
  refine Nat.eq_of_testBit_eq fun i => ?_
  rw [sumF_bit]
  by_cases hi : i < wide
  · rw [hp i hi]; simp [hi]
  · have : r.testBit i = false := Nat.testBit_lt_two_pow (Nat.lt_of_lt_of_le h (Nat.pow_le_pow_right (by decide) (by omega)))
    simp [hi, this]
theorem sumAt_rowF (P : Nat × Nat → Bool) (wide y r y' : Nat) : sumAt ((rowP wide y r).filter P) y' = if y = y' then sumF (fun x => r.testBit x && P (x, y)) wide else 0 := by
  unfold sumAt rowP sumF
  rw [List.filter_filter, List.filter_map, List.map_map, List.filter_filter]
  by_cases h : y = y'
  · subst h
    rw [if_pos rfl]
    congr 1
    rw [show (fun x => ((fun p : Nat × Nat => decide (p.2 = y) && P p) ∘ fun x => (x, y)) x && r.testBit x) = fun x => r.testBit x && P (x, y) from funext fun x => by simp [Bool.and_comm]]
    rfl
  · rw [if_neg h]
    rw [show (fun x => ((fun p : Nat × Nat => decide (p.2 = y') && P p) ∘ fun x => (x, y)) x && r.testBit x) = fun _ => false from funext fun x => by simp [h]]
    rw [List.filter_eq_nil_iff.mpr (by simp)]
    rfl
theorem sumAt_filter (P : Nat × Nat → Bool) (wide : Nat) (rows : List Nat) (y : Nat) : ∀ k, sumAt ((placesP wide rows k).filter P) y = if y < k then sumF (fun x => (rows.getD y 0).testBit x && P (x, y)) wide else 0
  | 0 => by simp [placesP, sumAt]
  | k + 1 => by
    rw [placesP_succ, List.filter_append, sumAt_app, sumAt_filter P wide rows y k, sumAt_rowF]
    by_cases e : k = y
    · subst e
      rw [if_neg (Nat.lt_irrefl _), if_pos rfl, if_pos (Nat.lt_succ_self _), Nat.zero_add]
    · rw [if_neg e, Nat.add_zero]
      by_cases h : y < k
      · rw [if_pos h, if_pos (by omega)]
      · rw [if_neg h, if_neg (by omega)]
theorem mem_row {wide y r : Nat} {p : Nat × Nat} : p ∈ rowP wide y r ↔ p.2 = y ∧ p.1 < wide ∧ r.testBit p.1 = true := by
  obtain ⟨a, b⟩ := p
  simp only [rowP, List.mem_map, List.mem_filter, List.mem_range, Prod.mk.injEq]
  constructor
  · rintro ⟨x, ⟨h1, h2⟩, rfl, rfl⟩
    exact ⟨rfl, h1, h2⟩
  · rintro ⟨rfl, h1, h2⟩
    exact ⟨a, ⟨h1, h2⟩, rfl, rfl⟩
theorem mem_places {wide : Nat} {rows : List Nat} {k : Nat} {p : Nat × Nat} : p ∈ placesP wide rows k ↔ p.2 < k ∧ p.1 < wide ∧ (rows.getD p.2 0).testBit p.1 = true := by
  simp only [placesP, List.mem_flatMap, List.mem_range, mem_row]
  constructor
  · rintro ⟨y, hy, rfl, h⟩
    exact ⟨hy, h⟩
  · rintro ⟨hy, h⟩
    exact ⟨p.2, hy, rfl, h⟩
/-! what is due -/
def opN : Nat → Nat → Nat → Nat
  | 0, a, b => a &&& b
  | 1, a, b => a ||| b
  | 2, a, b => a ^^^ b
  | _, a, b => a ^^^ (a &&& b)
def dueP (w : Nat) (os ts : Pl) : Pl := match w with
  | 0 => os.filter fun p => decide (p ∈ ts)
  | 1 => os ++ ts.filter fun p => !decide (p ∈ os)
  | 2 => (os.filter fun p => !decide (p ∈ ts)) ++ ts.filter fun p => !decide (p ∈ os)
  | _ => os.filter fun p => !decide (p ∈ ts)
theorem opN_lt {w a b n : Nat} (ha : a < 2 ^ n) (hb : b < 2 ^ n) : opN w a b < 2 ^ n := by
  unfold opN
  split
  · exact Nat.and_lt_two_pow _ hb
  · exact Nat.or_lt_two_pow ha hb
  · exact Nat.xor_lt_two_pow ha hb
  · exact Nat.xor_lt_two_pow ha (Nat.and_lt_two_pow _ hb)
theorem getD_lt {wide : Nat} {rows : List Nat} (h : ∀ r ∈ rows, r < 2 ^ wide) (y : Nat) : rows.getD y 0 < 2 ^ wide := by
  rw [List.getD_eq_getElem?_getD]
  cases e : rows[y]? with
  | none => exact Nat.pow_pos (by decide)
  | some r => exact h r (List.mem_of_getElem? e)
theorem sumAt_due {w wide : Nat} {rows us : List Nat} {y n : Nat} (h1 : ∀ r ∈ rows, r < 2 ^ wide) (h2 : ∀ r ∈ us, r < 2 ^ wide) (hy : y < n) :
    sumAt (dueP w (placesP wide rows n) (placesP wide us n)) y = opN w (rows.getD y 0) (us.getD y 0) := by
  have e := fun (P : Nat × Nat → Bool) (rs : List Nat) => sumAt_filter P wide rs y n
  simp only [if_pos hy] at e
  have e0 : sumAt (placesP wide rows n) y = sumF (fun x => (rows.getD y 0).testBit x && true) wide := by
    have := e (fun _ => true) rows
    rwa [List.filter_eq_self.mpr (by simp)] at this
  have a1 := getD_lt h1 y
  have a2 := getD_lt h2 y
  have m1 : ∀ x, x < wide → decide ((x, y) ∈ placesP wide rows n) = (rows.getD y 0).testBit x := fun x hx => by
    simp [mem_places, hy, hx]
  have m2 : ∀ x, x < wide → decide ((x, y) ∈ placesP wide us n) = (us.getD y 0).testBit x := fun x hx => by
    simp [mem_places, hy, hx]
  have hlt := opN_lt (w := w) a1 a2
  revert hlt
  match w with
  | 0 =>
    intro hlt
    show sumAt (List.filter _ _) y = _ &&& _
    rw [e]
    exact sumF_of hlt fun x hx => by rw [m2 x hx]; exact (Nat.testBit_and ..).symm
  | 1 =>
    intro hlt
    show sumAt (_ ++ List.filter _ _) y = _ ||| _
    rw [sumAt_app, e0, e, sumF_add fun x hx => by rw [m1 x hx]; cases (rows.getD y 0).testBit x <;> simp]
    exact sumF_of hlt fun x hx => by
      rw [m1 x hx]
      refine Eq.trans ?_ (Nat.testBit_or ..).symm
      cases (rows.getD y 0).testBit x <;> simp
  | 2 =>
    intro hlt
    show sumAt (List.filter _ _ ++ List.filter _ _) y = _ ^^^ _
    rw [sumAt_app, e, e, sumF_add fun x hx => by rw [m1 x hx, m2 x hx]; cases (rows.getD y 0).testBit x <;> simp]
    exact sumF_of hlt fun x hx => by
      rw [m1 x hx, m2 x hx]
      refine Eq.trans ?_ (Nat.testBit_xor ..).symm
      cases (rows.getD y 0).testBit x <;> simp
  | w + 3 =>
    intro hlt
    show sumAt (List.filter _ _) y = _ ^^^ (_ &&& _)
    rw [e]
    exact sumF_of hlt fun x hx => by
      rw [m2 x hx]
      refine Eq.trans ?_ (Nat.testBit_xor ..).symm
      rw [Nat.testBit_and]
      cases (rows.getD y 0).testBit x <;> simp
theorem rowsOf_due {w wide : Nat} {rows us : List Nat} (h1 : ∀ r ∈ rows, r < 2 ^ wide) (h2 : ∀ r ∈ us, r < 2 ^ wide) (hl : us.length = rows.length) :
    rowsOf (dueP w (placesP wide rows rows.length) (placesP wide us us.length)) rows.length = List.zipWith (opN w) rows us := by
  refine List.ext_getElem? fun y => ?_
  unfold rowsOf
  rw [List.getElem?_map, List.getElem?_zipWith, hl]
  by_cases hy : y < rows.length
  · rw [List.getElem?_range hy, Option.map_some, sumAt_due h1 h2 hy, List.getElem?_eq_getElem hy, List.getElem?_eq_getElem (by omega : y < us.length)]
    simp [List.getD_eq_getElem?_getD, hy, show y < us.length by omega]
  · rw [List.getElem?_eq_none (by simp; omega), List.getElem?_eq_none (by omega : rows.length ≤ y)]
    rfl
end N6
set_option Elab.async false
set_option linter.all false
set_option maxRecDepth 100000
set_option maxHeartbeats 4000000
namespace Lk08
open PySem PySem.Spec PyProof.Rows L2 Sy
def topS (i : Nat) : Stmt := PySem.Challenge.pw_cellfolio_k08_whole_masks_and_pictures.main.body.getD i (.Pass ⟨0, 0, 0, 0⟩)
abbrev names : List Str := ["FolioError", "BadPicture", "BadCell", "BadSize", "OutOfPlace", "BadMask", "BadRule", "BadEdge"]
abbrev it : ITab := [(1, .own 2, false), (1, .own 7, false), (1, .own 5, false), (1, .own 1, true), (1, .own 6, false), (1, .own 3, false), (1, .own 4, false), (1, .ty "ValueError", true), (2, .own 2, true), (2, .own 7, false), (2, .own 5, false), (2, .own 1, false), (2, .own 6, false), (2, .own 3, false), (2, .own 4, false), (2, .ty "ValueError", true), (3, .own 2, false), (3, .own 7, false), (3, .own 5, false), (3, .own 1, false), (3, .own 6, false), (3, .own 3, true), (3, .own 4, false), (3, .ty "ValueError", true), (5, .own 2, false), (5, .own 7, false), (5, .own 5, true), (5, .own 1, false), (5, .own 6, false), (5, .own 3, false), (5, .own 4, false), (5, .ty "ValueError", true)]
abbrev xt : XTab := [(1, 0, true), (2, 0, true), (3, 0, true), (5, 0, true)]
structure Tx (K : PySem.W.Frag) (mg : Str → Option Value) (ca : Nat → Addr) : Prop where
  n_ValueError : mg "ValueError" = none
  n_all : mg "all" = none
  n_bool : mg "bool" = none
  n_enumerate : mg "enumerate" = none
  n_int : mg "int" = none
  n_isinstance : mg "isinstance" = none
  n_len : mg "len" = none
  n_list : mg "list" = none
  n_min : mg "min" = none
  n_range : mg "range" = none
  n_str : mg "str" = none
  n_tuple : mg "tuple" = none
  n_zip : mg "zip" = none
  k_MOST_CELL : KonW K mg ca "MOST_CELL" (W.int 15)
  k_MOST_SIDE : KonW K mg ca "MOST_SIDE" (W.int 24)
  g_FolioError : mg "FolioError" = some (.ref (ca 0))
  g_BadPicture : mg "BadPicture" = some (.ref (ca 1))
  g_BadCell : mg "BadCell" = some (.ref (ca 2))
  g_BadSize : mg "BadSize" = some (.ref (ca 3))
  g_OutOfPlace : mg "OutOfPlace" = some (.ref (ca 4))
  g_BadMask : mg "BadMask" = some (.ref (ca 5))
  g_BadRule : mg "BadRule" = some (.ref (ca 6))
  g_BadEdge : mg "BadEdge" = some (.ref (ca 7))
  e_BadPicture : ExW K mg ca "BadPicture" 1
  e_BadCell : ExW K mg ca "BadCell" 2
  e_BadSize : ExW K mg ca "BadSize" 3
  e_BadMask : ExW K mg ca "BadMask" 5
  E : Exs K ca it xt
abbrev c_MOST_CELL : M T := mC (W.int 15)
abbrev c_MOST_SIDE : M T := mC (W.int 24)
section
variable {P : Program} {w : World} {K : PySem.W.Frag} {mg : Str → Option Value} {base : Heap} {ca : Nat → Addr}
abbrev s_bit_at : Stmt := topS 1
abbrev N_bit_at : List Str := ["number", "place"]
abbrev P_bit_at : List Str := ["number", "place"]
theorem sc_bit_at : FnScope N_bit_at P_bit_at (defScope s_bit_at) := ⟨rfl, rfl, rfl, by decide +kernel, rfl, by decide +kernel, by decide +kernel⟩
noncomputable def b_bit_at : MS :=
  (sRet (mBin fEq (mBin fAnd (mBin fShr (mVar 0) (mVar 1)) (mC (.int 1))) (mC (.int 1))))
noncomputable def m_bit_at : List W → GH → R W := mDef 2 b_bit_at
theorem ok_bit_at {f : Addr} {fd : FuncData} {dvs : List V} (F : FunD K "bit_at" "bit_at" (defArgs s_bit_at) (defBody s_bit_at) (defScope s_bit_at) dvs [] f fd) (T : Tx K mg ca) : FnOk P w K mg base (L2N.CX P w) 1 f fd P_bit_at (spM K ca 2 m_bit_at) := by
  refine def_okD (N := N_bit_at) F sc_bit_at fun cdv A outer s H E hr => ?_
  have hu := hr.units
  have hu5 := hu_five hr
  have tk : L2N.Takes (cxOf (L2N.CX P w) P w K mg base N_bit_at "bit_at" (defScope s_bit_at) f cdv A outer s H E) (fun c d _ H => E c d H) := L2N.takes_of rfl rfl rfl rfl
  exact (b_one (s_ret (s_cmp (op_eqA hu) says_eq (s_bin op_and says_band (s_bin op_shr says_shr (s_var (i := 0) rfl (.inl rfl)) (s_var (i := 1) rfl (.inl rfl))) s_int) s_int (nomark _))))
abbrev s_is_among : Stmt := topS 14
abbrev N_is_among : List Str := ["thing", "least", "most"]
abbrev P_is_among : List Str := ["thing", "least", "most"]
theorem sc_is_among : FnScope N_is_among P_is_among (defScope s_is_among) := ⟨rfl, rfl, rfl, by decide +kernel, rfl, by decide +kernel, by decide +kernel⟩
noncomputable def b_is_among : MS :=
  (sRet (mAndV (mBi fIsi (mConsT (mVar 0) (mConsT (mC (.ty "int")) mNilT))) (mAndV (mNotV (mBi fIsi (mConsT (mVar 0) (mConsT (mC (.ty "bool")) mNilT)))) (mChain fLe fLe (mVar 1) (mVar 0) (mVar 2)))))
noncomputable def m_is_among : List W → GH → R W := mDef 3 b_is_among
theorem ok_is_among {f : Addr} {fd : FuncData} {dvs : List V} (F : FunD K "is_among" "is_among" (defArgs s_is_among) (defBody s_is_among) (defScope s_is_among) dvs [] f fd) (T : Tx K mg ca) : FnOk P w K mg base (L2N.CX P w) 1 f fd P_is_among (spM K ca 3 m_is_among) := by
  refine def_okD (N := N_is_among) F sc_is_among fun cdv A outer s H E hr => ?_
  have hu := hr.units
  have hu5 := hu_five hr
  have tk : L2N.Takes (cxOf (L2N.CX P w) P w K mg base N_is_among "is_among" (defScope s_is_among) f cdv A outer s H E) (fun c d _ H => E c d H) := L2N.takes_of rfl rfl rfl rfl
  exact (b_one (s_ret (v_and (s_bi call_isi says_isi (by rfl) T.n_isinstance bt_isinstance (c_cons (s_var (i := 0) rfl (.inl rfl)) (c_cons (s_ty (by rfl) T.n_int bt_int) c_nil))) (v_and (v_not (s_bi call_isi says_isi (by rfl) T.n_isinstance bt_isinstance (c_cons (s_var (i := 0) rfl (.inl rfl)) (c_cons (s_ty (by rfl) T.n_bool bt_bool) c_nil)))) (v_one (s_chain op_le op_le says_C says_C (s_var (i := 1) rfl (.inl rfl)) (s_var (i := 0) rfl (.inl rfl)) (s_var (i := 2) rfl (.inl rfl))))))))
abbrev s_is_cell : Stmt := topS 15
abbrev N_is_cell : List Str := ["thing"]
abbrev P_is_cell : List Str := ["thing"]
theorem sc_is_cell : FnScope N_is_cell P_is_cell (defScope s_is_cell) := ⟨rfl, rfl, rfl, by decide +kernel, rfl, by decide +kernel, by decide +kernel⟩
noncomputable def b_is_cell : MS :=
  (sRet (mCall m_is_among [] (mCons (mVar 0) (mCons (mC (.int 0)) (mCons c_MOST_CELL mNil)))))
noncomputable def m_is_cell : List W → GH → R W := mDef 1 b_is_cell
theorem ok_is_cell {f : Addr} {fd : FuncData} {dvs : List V} (F : FunD K "is_cell" "is_cell" (defArgs s_is_cell) (defBody s_is_cell) (defScope s_is_cell) dvs [] f fd) (T : Tx K mg ca) (C_is_among : Callable P w K mg base ca 1 "is_among" P_is_among [] m_is_among) : FnOk P w K mg base (L2N.CX P w) 2 f fd P_is_cell (spM K ca 1 m_is_cell) := by
  refine def_okD (N := N_is_cell) F sc_is_cell fun cdv A outer s H E hr => ?_
  have hu := hr.units
  have hu5 := hu_five hr
  have tk : L2N.Takes (cxOf (L2N.CX P w) P w K mg base N_is_cell "is_cell" (defScope s_is_cell) f cdv A outer s H E) (fun c d _ H => E c d H) := L2N.takes_of rfl rfl rfl rfl
  exact (b_one (s_ret (s_call C_is_among (hr.mono (by decide)) (by rfl) tk (a_cons (s_var (i := 0) rfl (.inl rfl)) (a_cons s_int (a_cons (s_glob (by rfl) T.k_MOST_CELL) a_nil))) (len_dws (len_cons (len_cons (len_cons len_nil))) rfl))))
abbrev s_are_cells : Stmt := topS 16
abbrev N_are_cells : List Str := ["thing", "one"]
abbrev P_are_cells : List Str := ["thing"]
theorem sc_are_cells : FnScope N_are_cells P_are_cells (defScope s_are_cells) := ⟨rfl, rfl, rfl, by decide +kernel, rfl, by decide +kernel, by decide +kernel⟩
noncomputable def b_are_cells : MS :=
  (sRet (mAndV (mBi fIsi (mConsT (mVar 0) (mConsT (mC (.ty "list")) mNilT))) (mBi fAll (mConsT (mComp (miA (mVar 0)) (gN 1) mYes (mCall m_is_cell [] (mCons (mVar 1) mNil)) [1]) mNilT))))
noncomputable def m_are_cells : List W → GH → R W := mDef 2 b_are_cells
theorem ok_are_cells {f : Addr} {fd : FuncData} {dvs : List V} (F : FunD K "are_cells" "are_cells" (defArgs s_are_cells) (defBody s_are_cells) (defScope s_are_cells) dvs [] f fd) (T : Tx K mg ca) (C_is_cell : Callable P w K mg base ca 2 "is_cell" P_is_cell [] m_is_cell) : FnOk P w K mg base (L2N.CX P w) 3 f fd P_are_cells (spM K ca 1 m_are_cells) := by
  refine def_okD (N := N_are_cells) F sc_are_cells fun cdv A outer s H E hr => ?_
  have hu := hr.units
  have hu5 := hu_five hr
  have tk : L2N.Takes (cxOf (L2N.CX P w) P w K mg base N_are_cells "are_cells" (defScope s_are_cells) f cdv A outer s H E) (fun c d _ H => E c d H) := L2N.takes_of rfl rfl rfl rfl
  exact (b_one (s_ret (v_and (s_bi call_isi says_isi (by rfl) T.n_isinstance bt_isinstance (c_cons (s_var (i := 0) rfl (.inl rfl)) (c_cons (s_ty (by rfl) T.n_list bt_list) c_nil))) (v_one (s_bi (cr_all rfl) says_all (by rfl) T.n_all bt_all (c_cons (s_lc (own := [("one", 1)]) rfl sc_are_cells.nd (i_any (s_var (i := 0) rfl (.inl rfl))) (blkOk_by (N := N_are_cells) (sc := defScope s_are_cells) (by decide +kernel)) (fun _ _ _ _ _ => (pg_name (i := 1) sc_are_cells.nd rfl (by first | exact .inl rfl | exact .inr rfl))) tgt_name (own_name (by decide)) (fun _ _ _ _ _ => ts_nil) (fun _ _ _ _ _ => (s_call C_is_cell (hr.mono (by decide)) (by rfl) takesN (a_cons (s_var (i := 1) rfl (by first | exact .inl rfl | exact .inr (.inl rfl))) a_nil) (len_dws (len_cons len_nil) rfl)))) c_nil))))))
abbrev s_is_picture : Stmt := topS 17
abbrev N_is_picture : List Str := ["thing", "row"]
abbrev P_is_picture : List Str := ["thing"]
theorem sc_is_picture : FnScope N_is_picture P_is_picture (defScope s_is_picture) := ⟨rfl, rfl, rfl, by decide +kernel, rfl, by decide +kernel, by decide +kernel⟩
noncomputable def b_is_picture : MS :=
  (sSeq (sIf (mOr (mNot (mTru (mBi fIsi (mConsT (mVar 0) (mConsT (mC (.ty "list")) mNilT))))) (mOr (mNot (mB (mChain fLe fLe (mC (.int 1)) (mBi fLen (mConsT (mVar 0) mNilT)) c_MOST_SIDE))) (mNot (mTru (mBi fAll (mConsT (mComp (miA (mVar 0)) (gN 1) mYes (mCall m_are_cells [] (mCons (mVar 1) mNil)) [1]) mNilT)))))) (sRet (mC (.bl false))) sNext) (sRet (mAndV (mChain fLe fLe (mC (.int 1)) (mBi fLen (mConsT (mBin fIx (mVar 0) (mC (.int 0))) mNilT)) c_MOST_SIDE) (mBi fAll (mConsT (mComp (miA (mVar 0)) (gN 1) mYes (mBin fEq (mBi fLen (mConsT (mVar 1) mNilT)) (mBi fLen (mConsT (mBin fIx (mVar 0) (mC (.int 0))) mNilT))) [1]) mNilT)))))
noncomputable def m_is_picture : List W → GH → R W := mDef 2 b_is_picture
theorem ok_is_picture {f : Addr} {fd : FuncData} {dvs : List V} (F : FunD K "is_picture" "is_picture" (defArgs s_is_picture) (defBody s_is_picture) (defScope s_is_picture) dvs [] f fd) (T : Tx K mg ca) (C_are_cells : Callable P w K mg base ca 3 "are_cells" P_are_cells [] m_are_cells) : FnOk P w K mg base (L2N.CX P w) 4 f fd P_is_picture (spM K ca 1 m_is_picture) := by
  refine def_okD (N := N_is_picture) F sc_is_picture fun cdv A outer s H E hr => ?_
  have hu := hr.units
  have hu5 := hu_five hr
  have tk : L2N.Takes (cxOf (L2N.CX P w) P w K mg base N_is_picture "is_picture" (defScope s_is_picture) f cdv A outer s H E) (fun c d _ H => E c d H) := L2N.takes_of rfl rfl rfl rfl
  exact (b_cons (s_if (PW.pt (w_or (s_tnot (s_truth (s_bi call_isi says_isi (by rfl) T.n_isinstance bt_isinstance (c_cons (s_var (i := 0) rfl (.inr (.inl rfl))) (c_cons (s_ty (by rfl) T.n_list bt_list) c_nil))))) (w_or (s_tnot (s_testChain op_le op_le says_C says_C s_int (s_bi call_len says_len (by rfl) T.n_len bt_len (c_cons (s_var (i := 0) rfl (.inr (.inl rfl))) c_nil)) (s_glob (by rfl) T.k_MOST_SIDE))) (w_or1 (s_tnot (s_truth (s_bi (cr_all rfl) says_all (by rfl) T.n_all bt_all (c_cons (s_lc (own := [("row", 1)]) rfl sc_is_picture.nd (i_any (s_var (i := 0) rfl (.inr (.inl rfl)))) (blkOk_by (N := N_is_picture) (sc := defScope s_is_picture) (by decide +kernel)) (fun _ _ _ _ _ => (pg_name (i := 1) sc_is_picture.nd rfl (by first | exact .inl rfl | exact .inr rfl))) tgt_name (own_name (by decide)) (fun _ _ _ _ _ => ts_nil) (fun _ _ _ _ _ => (s_call C_are_cells (hr.mono (by decide)) (by rfl) takesN (a_cons (s_var (i := 1) rfl (by first | exact .inl rfl | exact .inr (.inl rfl))) a_nil) (len_dws (len_cons len_nil) rfl)))) c_nil)))))))) (b_one (s_ret s_bl)) b_nil) (b_one (s_ret (v_and (s_chain op_le op_le says_C says_C s_int (s_bi call_len says_len (by rfl) T.n_len bt_len (c_cons (s_ix (s_var (i := 0) rfl (.inr (.inl rfl))) s_int) c_nil)) (s_glob (by rfl) T.k_MOST_SIDE)) (v_one (s_bi (cr_all rfl) says_all (by rfl) T.n_all bt_all (c_cons (s_lc (own := [("row", 1)]) rfl sc_is_picture.nd (i_any (s_var (i := 0) rfl (.inr (.inl rfl)))) (blkOk_by (N := N_is_picture) (sc := defScope s_is_picture) (by decide +kernel)) (fun _ _ _ _ _ => (pg_name (i := 1) sc_is_picture.nd rfl (by first | exact .inl rfl | exact .inr rfl))) tgt_name (own_name (by decide)) (fun _ _ _ _ _ => ts_nil) (fun _ _ _ _ _ => (s_cmp (op_eqA hu) says_eq (s_bi call_len says_len (by rfl) T.n_len bt_len (c_cons (s_var (i := 1) rfl (by first | exact .inl rfl | exact .inr (.inl rfl))) c_nil)) (s_bi call_len says_len (by rfl) T.n_len bt_len (c_cons (s_ix (s_var (i := 0) rfl (by first | exact .inr (.inl rfl) | exact .inr (.inr rfl) | exact .inl rfl)) s_int) c_nil)) (nomark _)))) c_nil)))))))
abbrev s_need_picture : Stmt := topS 18
abbrev N_need_picture : List Str := ["picture"]
abbrev P_need_picture : List Str := ["picture"]
theorem sc_need_picture : FnScope N_need_picture P_need_picture (defScope s_need_picture) := ⟨rfl, rfl, rfl, by decide +kernel, rfl, by decide +kernel, by decide +kernel⟩
noncomputable def b_need_picture : MS :=
  (sIf (mNot (mTru (mCall m_is_picture [] (mCons (mVar 0) mNil)))) (sRaise 1) sNext)
noncomputable def m_need_picture : List W → GH → R W := mDef 1 b_need_picture
theorem ok_need_picture {f : Addr} {fd : FuncData} {dvs : List V} (F : FunD K "need_picture" "need_picture" (defArgs s_need_picture) (defBody s_need_picture) (defScope s_need_picture) dvs [] f fd) (T : Tx K mg ca) (C_is_picture : Callable P w K mg base ca 4 "is_picture" P_is_picture [] m_is_picture) : FnOk P w K mg base (L2N.CX P w) 5 f fd P_need_picture (spM K ca 1 m_need_picture) := by
  refine def_okD (N := N_need_picture) F sc_need_picture fun cdv A outer s H E hr => ?_
  have hu := hr.units
  have hu5 := hu_five hr
  have tk : L2N.Takes (cxOf (L2N.CX P w) P w K mg base N_need_picture "need_picture" (defScope s_need_picture) f cdv A outer s H E) (fun c d _ H => E c d H) := L2N.takes_of rfl rfl rfl rfl
  exact (b_one (s_if (s_tnot (s_truth (s_call C_is_picture (hr.mono (by decide)) (by rfl) tk (a_cons (s_var (i := 0) rfl (.inl rfl)) a_nil) (len_dws (len_cons len_nil) rfl)))) (b_one (s_raise rfl tk T.e_BadPicture (by rfl))) b_nil))
abbrev s_need_cell : Stmt := topS 19
abbrev N_need_cell : List Str := ["cell"]
abbrev P_need_cell : List Str := ["cell"]
theorem sc_need_cell : FnScope N_need_cell P_need_cell (defScope s_need_cell) := ⟨rfl, rfl, rfl, by decide +kernel, rfl, by decide +kernel, by decide +kernel⟩
noncomputable def b_need_cell : MS :=
  (sIf (mNot (mTru (mCall m_is_cell [] (mCons (mVar 0) mNil)))) (sRaise 2) sNext)
noncomputable def m_need_cell : List W → GH → R W := mDef 1 b_need_cell
theorem ok_need_cell {f : Addr} {fd : FuncData} {dvs : List V} (F : FunD K "need_cell" "need_cell" (defArgs s_need_cell) (defBody s_need_cell) (defScope s_need_cell) dvs [] f fd) (T : Tx K mg ca) (C_is_cell : Callable P w K mg base ca 2 "is_cell" P_is_cell [] m_is_cell) : FnOk P w K mg base (L2N.CX P w) 3 f fd P_need_cell (spM K ca 1 m_need_cell) := by
  refine def_okD (N := N_need_cell) F sc_need_cell fun cdv A outer s H E hr => ?_
  have hu := hr.units
  have hu5 := hu_five hr
  have tk : L2N.Takes (cxOf (L2N.CX P w) P w K mg base N_need_cell "need_cell" (defScope s_need_cell) f cdv A outer s H E) (fun c d _ H => E c d H) := L2N.takes_of rfl rfl rfl rfl
  exact (b_one (s_if (s_tnot (s_truth (s_call C_is_cell (hr.mono (by decide)) (by rfl) tk (a_cons (s_var (i := 0) rfl (.inl rfl)) a_nil) (len_dws (len_cons len_nil) rfl)))) (b_one (s_raise rfl tk T.e_BadCell (by rfl))) b_nil))
abbrev s_need_sides : Stmt := topS 20
abbrev N_need_sides : List Str := ["wide", "high"]
abbrev P_need_sides : List Str := ["wide", "high"]
theorem sc_need_sides : FnScope N_need_sides P_need_sides (defScope s_need_sides) := ⟨rfl, rfl, rfl, by decide +kernel, rfl, by decide +kernel, by decide +kernel⟩
noncomputable def b_need_sides : MS :=
  (sIf (mOr (mNot (mTru (mCall m_is_among [] (mCons (mVar 0) (mCons (mC (.int 1)) (mCons c_MOST_SIDE mNil)))))) (mNot (mTru (mCall m_is_among [] (mCons (mVar 1) (mCons (mC (.int 1)) (mCons c_MOST_SIDE mNil))))))) (sRaise 3) sNext)
noncomputable def m_need_sides : List W → GH → R W := mDef 2 b_need_sides
theorem ok_need_sides {f : Addr} {fd : FuncData} {dvs : List V} (F : FunD K "need_sides" "need_sides" (defArgs s_need_sides) (defBody s_need_sides) (defScope s_need_sides) dvs [] f fd) (T : Tx K mg ca) (C_is_among : Callable P w K mg base ca 1 "is_among" P_is_among [] m_is_among) : FnOk P w K mg base (L2N.CX P w) 2 f fd P_need_sides (spM K ca 2 m_need_sides) := by
  refine def_okD (N := N_need_sides) F sc_need_sides fun cdv A outer s H E hr => ?_
  have hu := hr.units
  have hu5 := hu_five hr
  have tk : L2N.Takes (cxOf (L2N.CX P w) P w K mg base N_need_sides "need_sides" (defScope s_need_sides) f cdv A outer s H E) (fun c d _ H => E c d H) := L2N.takes_of rfl rfl rfl rfl
  exact (b_one (s_if (PW.pt (w_or (s_tnot (s_truth (s_call C_is_among (hr.mono (by decide)) (by rfl) tk (a_cons (s_var (i := 0) rfl (.inl rfl)) (a_cons s_int (a_cons (s_glob (by rfl) T.k_MOST_SIDE) a_nil))) (len_dws (len_cons (len_cons (len_cons len_nil))) rfl)))) (w_or1 (s_tnot (s_truth (s_call C_is_among (hr.mono (by decide)) (by rfl) tk (a_cons (s_var (i := 1) rfl (.inl rfl)) (a_cons s_int (a_cons (s_glob (by rfl) T.k_MOST_SIDE) a_nil))) (len_dws (len_cons (len_cons (len_cons len_nil))) rfl))))))) (b_one (s_raise rfl tk T.e_BadSize (by rfl))) b_nil))
abbrev s_is_mask : Stmt := topS 22
abbrev N_is_mask : List Str := ["thing", "row"]
abbrev P_is_mask : List Str := ["thing"]
theorem sc_is_mask : FnScope N_is_mask P_is_mask (defScope s_is_mask) := ⟨rfl, rfl, rfl, by decide +kernel, rfl, by decide +kernel, by decide +kernel⟩
noncomputable def b_is_mask : MS :=
  (sSeq (sIf (mOr (mNot (mTru (mBi fIsi (mConsT (mVar 0) (mConsT (mC (.ty "tuple")) mNilT))))) (mOr (mB (mBin fNe (mBi fLen (mConsT (mVar 0) mNilT)) (mC (.int 2)))) (mNot (mTru (mCall m_is_among [] (mCons (mBin fIx (mVar 0) (mC (.int 0))) (mCons (mC (.int 1)) (mCons c_MOST_SIDE mNil)))))))) (sRet (mC (.bl false))) sNext) (sSeq (sIf (mOr (mNot (mTru (mBi fIsi (mConsT (mBin fIx (mVar 0) (mC (.int 1))) (mConsT (mC (.ty "tuple")) mNilT))))) (mNot (mB (mChain fLe fLe (mC (.int 1)) (mBi fLen (mConsT (mBin fIx (mVar 0) (mC (.int 1))) mNilT)) c_MOST_SIDE)))) (sRet (mC (.bl false))) sNext) (sRet (mBi fAll (mConsT (mComp (miA (mBin fIx (mVar 0) (mC (.int 1)))) (gN 1) mYes (mCall m_is_among [] (mCons (mVar 1) (mCons (mC (.int 0)) (mCons (mBin fSub (mBin fShl (mC (.int 1)) (mBin fIx (mVar 0) (mC (.int 0)))) (mC (.int 1))) mNil)))) [1]) mNilT)))))
noncomputable def m_is_mask : List W → GH → R W := mDef 2 b_is_mask
theorem ok_is_mask {f : Addr} {fd : FuncData} {dvs : List V} (F : FunD K "is_mask" "is_mask" (defArgs s_is_mask) (defBody s_is_mask) (defScope s_is_mask) dvs [] f fd) (T : Tx K mg ca) (C_is_among : Callable P w K mg base ca 1 "is_among" P_is_among [] m_is_among) : FnOk P w K mg base (L2N.CX P w) 2 f fd P_is_mask (spM K ca 1 m_is_mask) := by
  refine def_okD (N := N_is_mask) F sc_is_mask fun cdv A outer s H E hr => ?_
  have hu := hr.units
  have hu5 := hu_five hr
  have tk : L2N.Takes (cxOf (L2N.CX P w) P w K mg base N_is_mask "is_mask" (defScope s_is_mask) f cdv A outer s H E) (fun c d _ H => E c d H) := L2N.takes_of rfl rfl rfl rfl
  exact (b_cons (s_if (PW.pt (w_or (s_tnot (s_truth (s_bi call_isi says_isi (by rfl) T.n_isinstance bt_isinstance (c_cons (s_var (i := 0) rfl (.inr (.inl rfl))) (c_cons (s_ty (by rfl) T.n_tuple bt_tuple) c_nil))))) (w_or (s_testCmp (op_neA hu) says_ne (s_bi call_len says_len (by rfl) T.n_len bt_len (c_cons (s_var (i := 0) rfl (.inr (.inl rfl))) c_nil)) s_int (nomark _)) (w_or1 (s_tnot (s_truth (s_call C_is_among (hr.mono (by decide)) (by rfl) tk (a_cons (s_ix (s_var (i := 0) rfl (.inr (.inl rfl))) s_int) (a_cons s_int (a_cons (s_glob (by rfl) T.k_MOST_SIDE) a_nil))) (len_dws (len_cons (len_cons (len_cons len_nil))) rfl)))))))) (b_one (s_ret s_bl)) b_nil) (b_cons (s_if (PW.pt (w_or (s_tnot (s_truth (s_bi call_isi says_isi (by rfl) T.n_isinstance bt_isinstance (c_cons (s_ix (s_var (i := 0) rfl (.inr (.inl rfl))) s_int) (c_cons (s_ty (by rfl) T.n_tuple bt_tuple) c_nil))))) (w_or1 (s_tnot (s_testChain op_le op_le says_C says_C s_int (s_bi call_len says_len (by rfl) T.n_len bt_len (c_cons (s_ix (s_var (i := 0) rfl (.inr (.inl rfl))) s_int) c_nil)) (s_glob (by rfl) T.k_MOST_SIDE)))))) (b_one (s_ret s_bl)) b_nil) (b_one (s_ret (s_bi (cr_all rfl) says_all (by rfl) T.n_all bt_all (c_cons (s_lc (own := [("row", 1)]) rfl sc_is_mask.nd (i_any (s_ix (s_var (i := 0) rfl (.inr (.inl rfl))) s_int)) (blkOk_by (N := N_is_mask) (sc := defScope s_is_mask) (by decide +kernel)) (fun _ _ _ _ _ => (pg_name (i := 1) sc_is_mask.nd rfl (by first | exact .inl rfl | exact .inr rfl))) tgt_name (own_name (by decide)) (fun _ _ _ _ _ => ts_nil) (fun _ _ _ _ _ => (s_call C_is_among (hr.mono (by decide)) (by rfl) takesN (a_cons (s_var (i := 1) rfl (by first | exact .inl rfl | exact .inr (.inl rfl))) (a_cons s_int (a_cons (s_bin op_sub says_sub (s_bin op_shlW says_shl s_int (s_ix (s_var (i := 0) rfl (by first | exact .inr (.inl rfl) | exact .inr (.inr rfl) | exact .inl rfl)) s_int)) s_int) a_nil))) (len_dws (len_cons (len_cons (len_cons len_nil))) rfl)))) c_nil))))))
abbrev s_need_masks : Stmt := topS 23
abbrev N_need_masks : List Str := ["masks", "mask"]
abbrev P_need_masks : List Str := ["masks"]
theorem sc_need_masks : FnScope N_need_masks P_need_masks (defScope s_need_masks) := ⟨rfl, rfl, rfl, by decide +kernel, rfl, by decide +kernel, by decide +kernel⟩
noncomputable def b_need_masks : MS :=
  (sSeq (sFor (miA (mVar 0)) (gN 1) (sIf (mNot (mTru (mCall m_is_mask [] (mCons (mVar 1) mNil)))) (sRaise 5) sNext)) (sFor (miA (mVar 0)) (gN 1) (sIf (mOr (mB (mBin fNe (mBin fIx (mVar 1) (mC (.int 0))) (mBin fIx (mBin fIx (mVar 0) (mC (.int 0))) (mC (.int 0))))) (mB (mBin fNe (mBi fLen (mConsT (mBin fIx (mVar 1) (mC (.int 1))) mNilT)) (mBi fLen (mConsT (mBin fIx (mBin fIx (mVar 0) (mC (.int 0))) (mC (.int 1))) mNilT))))) (sRaise 3) sNext)))
noncomputable def m_need_masks : List W → GH → R W := mDef 2 b_need_masks
theorem ok_need_masks {f : Addr} {fd : FuncData} {dvs : List V} (F : FunD K "need_masks" "need_masks" (defArgs s_need_masks) (defBody s_need_masks) (defScope s_need_masks) dvs [] f fd) (T : Tx K mg ca) (C_is_mask : Callable P w K mg base ca 2 "is_mask" P_is_mask [] m_is_mask) : FnOk P w K mg base (L2N.CX P w) 3 f fd P_need_masks (spM K ca 1 m_need_masks) := by
  refine def_okD (N := N_need_masks) F sc_need_masks fun cdv A outer s H E hr => ?_
  have hu := hr.units
  have hu5 := hu_five hr
  have tk : L2N.Takes (cxOf (L2N.CX P w) P w K mg base N_need_masks "need_masks" (defScope s_need_masks) f cdv A outer s H E) (fun c d _ H => E c d H) := L2N.takes_of rfl rfl rfl rfl
  exact (b_cons (s_for (passes_of rfl) rfl (i_any (s_var (i := 0) rfl (.inl rfl))) (g_name (i := 1) sc_need_masks.nd rfl (.inl rfl)) (b_one (s_if (s_tnot (s_truth (s_call C_is_mask (hr.mono (by decide)) (by rfl) tk (a_cons (s_var (i := 1) rfl (.inl rfl)) a_nil) (len_dws (len_cons len_nil) rfl)))) (b_one (s_raise rfl tk T.e_BadMask (by rfl))) b_nil))) (b_one (s_for (passes_of rfl) rfl (i_any (s_var (i := 0) rfl (.inl rfl))) (g_name (i := 1) sc_need_masks.nd rfl (.inl rfl)) (b_one (s_if (PW.pt (w_or (s_testCmp (op_neA hu) says_ne (s_ix (s_var (i := 1) rfl (.inl rfl)) s_int) (s_ix (s_ix (s_var (i := 0) rfl (.inl rfl)) s_int) s_int) (nomark _)) (w_or1 (s_testCmp (op_neA hu) says_ne (s_bi call_len says_len (by rfl) T.n_len bt_len (c_cons (s_ix (s_var (i := 1) rfl (.inl rfl)) s_int) c_nil)) (s_bi call_len says_len (by rfl) T.n_len bt_len (c_cons (s_ix (s_ix (s_var (i := 0) rfl (.inl rfl)) s_int) s_int) c_nil)) (nomark _))))) (b_one (s_raise rfl tk T.e_BadSize (by rfl))) b_nil)))))
abbrev s_full_mask : Stmt := topS 24
abbrev N_full_mask : List Str := ["wide", "high"]
abbrev P_full_mask : List Str := ["wide", "high"]
theorem sc_full_mask : FnScope N_full_mask P_full_mask (defScope s_full_mask) := ⟨rfl, rfl, rfl, by decide +kernel, rfl, by decide +kernel, by decide +kernel⟩
noncomputable def b_full_mask : MS :=
  (sSeq (sDrop (mCall m_need_sides [] (mCons (mVar 0) (mCons (mVar 1) mNil)))) (sRet (mTup (mCons (mVar 0) (mCons (mBin fMul (mTup (mCons (mBin fSub (mBin fShl (mC (.int 1)) (mVar 0)) (mC (.int 1))) mNil)) (mVar 1)) mNil)))))
noncomputable def m_full_mask : List W → GH → R W := mDef 2 b_full_mask
theorem ok_full_mask {f : Addr} {fd : FuncData} {dvs : List V} (F : FunD K "full_mask" "full_mask" (defArgs s_full_mask) (defBody s_full_mask) (defScope s_full_mask) dvs [] f fd) (T : Tx K mg ca) (C_need_sides : Callable P w K mg base ca 2 "need_sides" P_need_sides [] m_need_sides) : FnOk P w K mg base (L2N.CX P w) 3 f fd P_full_mask (spM K ca 2 m_full_mask) := by
  refine def_okD (N := N_full_mask) F sc_full_mask fun cdv A outer s H E hr => ?_
  have hu := hr.units
  have hu5 := hu_five hr
  have tk : L2N.Takes (cxOf (L2N.CX P w) P w K mg base N_full_mask "full_mask" (defScope s_full_mask) f cdv A outer s H E) (fun c d _ H => E c d H) := L2N.takes_of rfl rfl rfl rfl
  exact (b_cons (s_expr (s_call C_need_sides (hr.mono (by decide)) (by rfl) tk (a_cons (s_var (i := 0) rfl (.inl rfl)) (a_cons (s_var (i := 1) rfl (.inl rfl)) a_nil)) (len_dws (len_cons (len_cons len_nil)) rfl))) (b_one (s_ret (s_tup (a_cons (s_var (i := 0) rfl (.inl rfl)) (a_cons (s_bin op_mulA says_mul (s_tup (a_cons (s_bin op_sub says_sub (s_bin op_shlW says_shl s_int (s_var (i := 0) rfl (.inl rfl))) s_int) a_nil)) (s_var (i := 1) rfl (.inl rfl))) a_nil))))))
abbrev s_row_mask : Stmt := topS 25
abbrev N_row_mask : List Str := ["row", "cells", "cell", "found", "place"]
abbrev P_row_mask : List Str := ["row", "cells"]
theorem sc_row_mask : FnScope N_row_mask P_row_mask (defScope s_row_mask) := ⟨rfl, rfl, rfl, by decide +kernel, rfl, by decide +kernel, by decide +kernel⟩
noncomputable def b_row_mask : MS :=
  (sSeq (sSet 3 (mC (.int 0))) (sSeq (sFor (miB iterE (mConsT (mVar 0) mNilT)) (gT (gC (gN 4) (gC (gN 2) gE))) (sIf (mB (mBin fIn (mVar 2) (mVar 1))) (sAug 3 fOr (mBin fShl (mC (.int 1)) (mVar 4))) sNext)) (sRet (mVar 3))))
noncomputable def m_row_mask : List W → GH → R W := mDef 5 b_row_mask
theorem ok_row_mask {f : Addr} {fd : FuncData} {dvs : List V} (F : FunD K "row_mask" "row_mask" (defArgs s_row_mask) (defBody s_row_mask) (defScope s_row_mask) dvs [] f fd) (T : Tx K mg ca) : FnOk P w K mg base (L2N.CX P w) 1 f fd P_row_mask (spM K ca 2 m_row_mask) := by
  refine def_okD (N := N_row_mask) F sc_row_mask fun cdv A outer s H E hr => ?_
  have hu := hr.units
  have hu5 := hu_five hr
  have tk : L2N.Takes (cxOf (L2N.CX P w) P w K mg base N_row_mask "row_mask" (defScope s_row_mask) f cdv A outer s H E) (fun c d _ H => E c d H) := L2N.takes_of rfl rfl rfl rfl
  exact (b_cons (s_set (i := 3) sc_row_mask.nd rfl (.inl rfl) s_int) (b_cons (s_for (passes_of rfl) rfl (i_enum (by rfl) T.n_enumerate (c_cons (s_var (i := 0) rfl (.inl rfl)) c_nil)) (g_tup rfl (g_cons (g_name (i := 4) sc_row_mask.nd rfl (.inl rfl)) (g_cons (g_name (i := 2) sc_row_mask.nd rfl (.inl rfl)) g_nil)) (gl_cons (gl_cons gl_nil))) (b_one (s_if (s_testCmp (op_inA hu5) says_isin (s_var (i := 2) rfl (.inl rfl)) (s_var (i := 1) rfl (.inl rfl)) (by rfl)) (b_one (s_aug (i := 3) sc_row_mask.nd rfl (.inl rfl) (s_bin op_shlW says_shl s_int (s_var (i := 4) rfl (.inl rfl))) (aug_I iop_or) says_bor)) b_nil))) (b_one (s_ret (s_var (i := 3) rfl (.inl rfl))))))
abbrev s_mask_of : Stmt := topS 26
abbrev N_mask_of : List Str := ["picture", "cells", "row"]
abbrev P_mask_of : List Str := ["picture", "cells"]
theorem sc_mask_of : FnScope N_mask_of P_mask_of (defScope s_mask_of) := ⟨rfl, rfl, rfl, by decide +kernel, rfl, by decide +kernel, by decide +kernel⟩
noncomputable def b_mask_of : MS :=
  (sSeq (sDrop (mCall m_need_picture [] (mCons (mVar 0) mNil))) (sSeq (sIf (mNot (mTru (mCall m_are_cells [] (mCons (mVar 1) mNil)))) (sRaise 2) sNext) (sRet (mTup (mCons (mBi fLen (mConsT (mBin fIx (mVar 0) (mC (.int 0))) mNilT)) (mCons (mBi fTuple (mConsT (mComp (miA (mVar 0)) (gN 2) mYes (mCall m_row_mask [] (mCons (mVar 2) (mCons (mVar 1) mNil))) [2]) mNilT)) mNil))))))
noncomputable def m_mask_of : List W → GH → R W := mDef 3 b_mask_of
theorem ok_mask_of {f : Addr} {fd : FuncData} {dvs : List V} (F : FunD K "mask_of" "mask_of" (defArgs s_mask_of) (defBody s_mask_of) (defScope s_mask_of) dvs [] f fd) (T : Tx K mg ca) (C_are_cells : Callable P w K mg base ca 3 "are_cells" P_are_cells [] m_are_cells) (C_need_picture : Callable P w K mg base ca 5 "need_picture" P_need_picture [] m_need_picture) (C_row_mask : Callable P w K mg base ca 1 "row_mask" P_row_mask [] m_row_mask) : FnOk P w K mg base (L2N.CX P w) 6 f fd P_mask_of (spM K ca 2 m_mask_of) := by
  refine def_okD (N := N_mask_of) F sc_mask_of fun cdv A outer s H E hr => ?_
  have hu := hr.units
  have hu5 := hu_five hr
  have tk : L2N.Takes (cxOf (L2N.CX P w) P w K mg base N_mask_of "mask_of" (defScope s_mask_of) f cdv A outer s H E) (fun c d _ H => E c d H) := L2N.takes_of rfl rfl rfl rfl
  exact (b_cons (s_expr (s_call C_need_picture (hr.mono (by decide)) (by rfl) tk (a_cons (s_var (i := 0) rfl (.inl rfl)) a_nil) (len_dws (len_cons len_nil) rfl))) (b_cons (s_if (s_tnot (s_truth (s_call C_are_cells (hr.mono (by decide)) (by rfl) tk (a_cons (s_var (i := 1) rfl (.inr (.inl rfl))) a_nil) (len_dws (len_cons len_nil) rfl)))) (b_one (s_raise rfl tk T.e_BadCell (by rfl))) b_nil) (b_one (s_ret (s_tup (a_cons (s_bi call_len says_len (by rfl) T.n_len bt_len (c_cons (s_ix (s_var (i := 0) rfl (.inl rfl)) s_int) c_nil)) (a_cons (s_bty call_tuple_of says_tuple (by rfl) T.n_tuple bt_tuple (c_cons (s_lc (own := [("row", 2)]) rfl sc_mask_of.nd (i_any (s_var (i := 0) rfl (.inl rfl))) (blkOk_by (N := N_mask_of) (sc := defScope s_mask_of) (by decide +kernel)) (fun _ _ _ _ _ => (pg_name (i := 2) sc_mask_of.nd rfl (by first | exact .inl rfl | exact .inr rfl))) tgt_name (own_name (by decide)) (fun _ _ _ _ _ => ts_nil) (fun _ _ _ _ _ => (s_call C_row_mask (hr.mono (by decide)) (by rfl) takesN (a_cons (s_var (i := 2) rfl (by first | exact .inl rfl | exact .inr (.inl rfl))) (a_cons (s_var (i := 1) rfl (by first | exact .inr (.inl rfl) | exact .inr (.inr rfl) | exact .inl rfl)) a_nil)) (len_dws (len_cons (len_cons len_nil)) rfl)))) c_nil)) a_nil)))))))
abbrev s_both_masks : Stmt := topS 27
abbrev N_both_masks : List Str := ["one", "other", "left", "right"]
abbrev P_both_masks : List Str := ["one", "other"]
theorem sc_both_masks : FnScope N_both_masks P_both_masks (defScope s_both_masks) := ⟨rfl, rfl, rfl, by decide +kernel, rfl, by decide +kernel, by decide +kernel⟩
noncomputable def b_both_masks : MS :=
  (sSeq (sDrop (mCall m_need_masks [] (mCons (mLst (mCons (mVar 0) (mCons (mVar 1) mNil))) mNil))) (sRet (mTup (mCons (mBin fIx (mVar 0) (mC (.int 0))) (mCons (mBi fTuple (mConsT (mComp (miB iterZ (mConsT (mBin fIx (mVar 0) (mC (.int 1))) (mConsT (mBin fIx (mVar 1) (mC (.int 1))) mNilT))) (gT (gC (gN 2) (gC (gN 3) gE))) mYes (mBin fAnd (mVar 2) (mVar 3)) [2, 3]) mNilT)) mNil)))))
noncomputable def m_both_masks : List W → GH → R W := mDef 4 b_both_masks
theorem ok_both_masks {f : Addr} {fd : FuncData} {dvs : List V} (F : FunD K "both_masks" "both_masks" (defArgs s_both_masks) (defBody s_both_masks) (defScope s_both_masks) dvs [] f fd) (T : Tx K mg ca) (C_need_masks : Callable P w K mg base ca 3 "need_masks" P_need_masks [] m_need_masks) : FnOk P w K mg base (L2N.CX P w) 4 f fd P_both_masks (spM K ca 2 m_both_masks) := by
  refine def_okD (N := N_both_masks) F sc_both_masks fun cdv A outer s H E hr => ?_
  have hu := hr.units
  have hu5 := hu_five hr
  have tk : L2N.Takes (cxOf (L2N.CX P w) P w K mg base N_both_masks "both_masks" (defScope s_both_masks) f cdv A outer s H E) (fun c d _ H => E c d H) := L2N.takes_of rfl rfl rfl rfl
  exact (b_cons (s_expr (s_call C_need_masks (hr.mono (by decide)) (by rfl) tk (a_cons (s_lst (a_cons (s_var (i := 0) rfl (.inl rfl)) (a_cons (s_var (i := 1) rfl (.inl rfl)) a_nil))) a_nil) (len_dws (len_cons len_nil) rfl))) (b_one (s_ret (s_tup (a_cons (s_ix (s_var (i := 0) rfl (.inl rfl)) s_int) (a_cons (s_bty call_tuple_of says_tuple (by rfl) T.n_tuple bt_tuple (c_cons (s_lc (own := [("left", 2), ("right", 3)]) rfl sc_both_masks.nd (i_zip (by rfl) T.n_zip (c_cons (s_ix (s_var (i := 0) rfl (.inl rfl)) s_int) (c_cons (s_ix (s_var (i := 1) rfl (.inl rfl)) s_int) c_nil))) (blkOk_by (N := N_both_masks) (sc := defScope s_both_masks) (by decide +kernel)) (fun _ _ _ _ _ => (pg_tup rfl (pgs_cons (pg_name (i := 2) sc_both_masks.nd rfl (by first | exact .inl rfl | exact .inr rfl)) (pgs_cons (pg_name (i := 3) sc_both_masks.nd rfl (by first | exact .inl rfl | exact .inr rfl)) pgs_nil)))) (tgt_tup (tgt_cons tgt_name (tgt_cons tgt_name tgt_nil)) (gl_cons (gl_cons gl_nil))) (own_tup (own_cons (own_name (by decide)) mono_name (mono_cons mono_name mono_nil) (own_cons (own_name (by decide)) mono_name mono_nil own_nil))) (fun _ _ _ _ _ => ts_nil) (fun _ _ _ _ _ => (s_bin op_and says_band (s_var (i := 2) rfl (by first | exact .inl rfl | exact .inr (.inl rfl))) (s_var (i := 3) rfl (by first | exact .inl rfl | exact .inr (.inl rfl)))))) c_nil)) a_nil))))))
abbrev s_either_mask : Stmt := topS 28
abbrev N_either_mask : List Str := ["one", "other", "left", "right"]
abbrev P_either_mask : List Str := ["one", "other"]
theorem sc_either_mask : FnScope N_either_mask P_either_mask (defScope s_either_mask) := ⟨rfl, rfl, rfl, by decide +kernel, rfl, by decide +kernel, by decide +kernel⟩
noncomputable def b_either_mask : MS :=
  (sSeq (sDrop (mCall m_need_masks [] (mCons (mLst (mCons (mVar 0) (mCons (mVar 1) mNil))) mNil))) (sRet (mTup (mCons (mBin fIx (mVar 0) (mC (.int 0))) (mCons (mBi fTuple (mConsT (mComp (miB iterZ (mConsT (mBin fIx (mVar 0) (mC (.int 1))) (mConsT (mBin fIx (mVar 1) (mC (.int 1))) mNilT))) (gT (gC (gN 2) (gC (gN 3) gE))) mYes (mBin fOr (mVar 2) (mVar 3)) [2, 3]) mNilT)) mNil)))))
noncomputable def m_either_mask : List W → GH → R W := mDef 4 b_either_mask
theorem ok_either_mask {f : Addr} {fd : FuncData} {dvs : List V} (F : FunD K "either_mask" "either_mask" (defArgs s_either_mask) (defBody s_either_mask) (defScope s_either_mask) dvs [] f fd) (T : Tx K mg ca) (C_need_masks : Callable P w K mg base ca 3 "need_masks" P_need_masks [] m_need_masks) : FnOk P w K mg base (L2N.CX P w) 4 f fd P_either_mask (spM K ca 2 m_either_mask) := by
  refine def_okD (N := N_either_mask) F sc_either_mask fun cdv A outer s H E hr => ?_
  have hu := hr.units
  have hu5 := hu_five hr
  have tk : L2N.Takes (cxOf (L2N.CX P w) P w K mg base N_either_mask "either_mask" (defScope s_either_mask) f cdv A outer s H E) (fun c d _ H => E c d H) := L2N.takes_of rfl rfl rfl rfl
  exact (b_cons (s_expr (s_call C_need_masks (hr.mono (by decide)) (by rfl) tk (a_cons (s_lst (a_cons (s_var (i := 0) rfl (.inl rfl)) (a_cons (s_var (i := 1) rfl (.inl rfl)) a_nil))) a_nil) (len_dws (len_cons len_nil) rfl))) (b_one (s_ret (s_tup (a_cons (s_ix (s_var (i := 0) rfl (.inl rfl)) s_int) (a_cons (s_bty call_tuple_of says_tuple (by rfl) T.n_tuple bt_tuple (c_cons (s_lc (own := [("left", 2), ("right", 3)]) rfl sc_either_mask.nd (i_zip (by rfl) T.n_zip (c_cons (s_ix (s_var (i := 0) rfl (.inl rfl)) s_int) (c_cons (s_ix (s_var (i := 1) rfl (.inl rfl)) s_int) c_nil))) (blkOk_by (N := N_either_mask) (sc := defScope s_either_mask) (by decide +kernel)) (fun _ _ _ _ _ => (pg_tup rfl (pgs_cons (pg_name (i := 2) sc_either_mask.nd rfl (by first | exact .inl rfl | exact .inr rfl)) (pgs_cons (pg_name (i := 3) sc_either_mask.nd rfl (by first | exact .inl rfl | exact .inr rfl)) pgs_nil)))) (tgt_tup (tgt_cons tgt_name (tgt_cons tgt_name tgt_nil)) (gl_cons (gl_cons gl_nil))) (own_tup (own_cons (own_name (by decide)) mono_name (mono_cons mono_name mono_nil) (own_cons (own_name (by decide)) mono_name mono_nil own_nil))) (fun _ _ _ _ _ => ts_nil) (fun _ _ _ _ _ => (s_bin op_or says_bor (s_var (i := 2) rfl (by first | exact .inl rfl | exact .inr (.inl rfl))) (s_var (i := 3) rfl (by first | exact .inl rfl | exact .inr (.inl rfl)))))) c_nil)) a_nil))))))
abbrev s_one_mask : Stmt := topS 29
abbrev N_one_mask : List Str := ["one", "other", "left", "right"]
abbrev P_one_mask : List Str := ["one", "other"]
theorem sc_one_mask : FnScope N_one_mask P_one_mask (defScope s_one_mask) := ⟨rfl, rfl, rfl, by decide +kernel, rfl, by decide +kernel, by decide +kernel⟩
noncomputable def b_one_mask : MS :=
  (sSeq (sDrop (mCall m_need_masks [] (mCons (mLst (mCons (mVar 0) (mCons (mVar 1) mNil))) mNil))) (sRet (mTup (mCons (mBin fIx (mVar 0) (mC (.int 0))) (mCons (mBi fTuple (mConsT (mComp (miB iterZ (mConsT (mBin fIx (mVar 0) (mC (.int 1))) (mConsT (mBin fIx (mVar 1) (mC (.int 1))) mNilT))) (gT (gC (gN 2) (gC (gN 3) gE))) mYes (mBin fXor (mVar 2) (mVar 3)) [2, 3]) mNilT)) mNil)))))
noncomputable def m_one_mask : List W → GH → R W := mDef 4 b_one_mask
theorem ok_one_mask {f : Addr} {fd : FuncData} {dvs : List V} (F : FunD K "one_mask" "one_mask" (defArgs s_one_mask) (defBody s_one_mask) (defScope s_one_mask) dvs [] f fd) (T : Tx K mg ca) (C_need_masks : Callable P w K mg base ca 3 "need_masks" P_need_masks [] m_need_masks) : FnOk P w K mg base (L2N.CX P w) 4 f fd P_one_mask (spM K ca 2 m_one_mask) := by
  refine def_okD (N := N_one_mask) F sc_one_mask fun cdv A outer s H E hr => ?_
  have hu := hr.units
  have hu5 := hu_five hr
  have tk : L2N.Takes (cxOf (L2N.CX P w) P w K mg base N_one_mask "one_mask" (defScope s_one_mask) f cdv A outer s H E) (fun c d _ H => E c d H) := L2N.takes_of rfl rfl rfl rfl
  exact (b_cons (s_expr (s_call C_need_masks (hr.mono (by decide)) (by rfl) tk (a_cons (s_lst (a_cons (s_var (i := 0) rfl (.inl rfl)) (a_cons (s_var (i := 1) rfl (.inl rfl)) a_nil))) a_nil) (len_dws (len_cons len_nil) rfl))) (b_one (s_ret (s_tup (a_cons (s_ix (s_var (i := 0) rfl (.inl rfl)) s_int) (a_cons (s_bty call_tuple_of says_tuple (by rfl) T.n_tuple bt_tuple (c_cons (s_lc (own := [("left", 2), ("right", 3)]) rfl sc_one_mask.nd (i_zip (by rfl) T.n_zip (c_cons (s_ix (s_var (i := 0) rfl (.inl rfl)) s_int) (c_cons (s_ix (s_var (i := 1) rfl (.inl rfl)) s_int) c_nil))) (blkOk_by (N := N_one_mask) (sc := defScope s_one_mask) (by decide +kernel)) (fun _ _ _ _ _ => (pg_tup rfl (pgs_cons (pg_name (i := 2) sc_one_mask.nd rfl (by first | exact .inl rfl | exact .inr rfl)) (pgs_cons (pg_name (i := 3) sc_one_mask.nd rfl (by first | exact .inl rfl | exact .inr rfl)) pgs_nil)))) (tgt_tup (tgt_cons tgt_name (tgt_cons tgt_name tgt_nil)) (gl_cons (gl_cons gl_nil))) (own_tup (own_cons (own_name (by decide)) mono_name (mono_cons mono_name mono_nil) (own_cons (own_name (by decide)) mono_name mono_nil own_nil))) (fun _ _ _ _ _ => ts_nil) (fun _ _ _ _ _ => (s_bin op_xor says_bxor (s_var (i := 2) rfl (by first | exact .inl rfl | exact .inr (.inl rfl))) (s_var (i := 3) rfl (by first | exact .inl rfl | exact .inr (.inl rfl)))))) c_nil)) a_nil))))))
abbrev s_other_mask : Stmt := topS 30
abbrev N_other_mask : List Str := ["mask"]
abbrev P_other_mask : List Str := ["mask"]
theorem sc_other_mask : FnScope N_other_mask P_other_mask (defScope s_other_mask) := ⟨rfl, rfl, rfl, by decide +kernel, rfl, by decide +kernel, by decide +kernel⟩
noncomputable def b_other_mask : MS :=
  (sSeq (sDrop (mCall m_need_masks [] (mCons (mLst (mCons (mVar 0) mNil)) mNil))) (sRet (mCall m_one_mask [] (mCons (mVar 0) (mCons (mCall m_full_mask [] (mCons (mBin fIx (mVar 0) (mC (.int 0))) (mCons (mBi fLen (mConsT (mBin fIx (mVar 0) (mC (.int 1))) mNilT)) mNil))) mNil)))))
noncomputable def m_other_mask : List W → GH → R W := mDef 1 b_other_mask
theorem ok_other_mask {f : Addr} {fd : FuncData} {dvs : List V} (F : FunD K "other_mask" "other_mask" (defArgs s_other_mask) (defBody s_other_mask) (defScope s_other_mask) dvs [] f fd) (T : Tx K mg ca) (C_full_mask : Callable P w K mg base ca 3 "full_mask" P_full_mask [] m_full_mask) (C_need_masks : Callable P w K mg base ca 3 "need_masks" P_need_masks [] m_need_masks) (C_one_mask : Callable P w K mg base ca 4 "one_mask" P_one_mask [] m_one_mask) : FnOk P w K mg base (L2N.CX P w) 5 f fd P_other_mask (spM K ca 1 m_other_mask) := by
  refine def_okD (N := N_other_mask) F sc_other_mask fun cdv A outer s H E hr => ?_
  have hu := hr.units
  have hu5 := hu_five hr
  have tk : L2N.Takes (cxOf (L2N.CX P w) P w K mg base N_other_mask "other_mask" (defScope s_other_mask) f cdv A outer s H E) (fun c d _ H => E c d H) := L2N.takes_of rfl rfl rfl rfl
  exact (b_cons (s_expr (s_call C_need_masks (hr.mono (by decide)) (by rfl) tk (a_cons (s_lst (a_cons (s_var (i := 0) rfl (.inl rfl)) a_nil)) a_nil) (len_dws (len_cons len_nil) rfl))) (b_one (s_ret (s_call C_one_mask (hr.mono (by decide)) (by rfl) tk (a_cons (s_var (i := 0) rfl (.inl rfl)) (a_cons (s_call C_full_mask (hr.mono (by decide)) (by rfl) tk (a_cons (s_ix (s_var (i := 0) rfl (.inl rfl)) s_int) (a_cons (s_bi call_len says_len (by rfl) T.n_len bt_len (c_cons (s_ix (s_var (i := 0) rfl (.inl rfl)) s_int) c_nil)) a_nil)) (len_dws (len_cons (len_cons len_nil)) rfl)) a_nil)) (len_dws (len_cons (len_cons len_nil)) rfl)))))
abbrev s_need_fit : Stmt := topS 31
abbrev N_need_fit : List Str := ["picture", "mask"]
abbrev P_need_fit : List Str := ["picture", "mask"]
theorem sc_need_fit : FnScope N_need_fit P_need_fit (defScope s_need_fit) := ⟨rfl, rfl, rfl, by decide +kernel, rfl, by decide +kernel, by decide +kernel⟩
noncomputable def b_need_fit : MS :=
  (sIf (mOr (mB (mBin fNe (mBin fIx (mVar 1) (mC (.int 0))) (mBi fLen (mConsT (mBin fIx (mVar 0) (mC (.int 0))) mNilT)))) (mB (mBin fNe (mBi fLen (mConsT (mBin fIx (mVar 1) (mC (.int 1))) mNilT)) (mBi fLen (mConsT (mVar 0) mNilT))))) (sRaise 3) sNext)
noncomputable def m_need_fit : List W → GH → R W := mDef 2 b_need_fit
theorem ok_need_fit {f : Addr} {fd : FuncData} {dvs : List V} (F : FunD K "need_fit" "need_fit" (defArgs s_need_fit) (defBody s_need_fit) (defScope s_need_fit) dvs [] f fd) (T : Tx K mg ca) : FnOk P w K mg base (L2N.CX P w) 1 f fd P_need_fit (spM K ca 2 m_need_fit) := by
  refine def_okD (N := N_need_fit) F sc_need_fit fun cdv A outer s H E hr => ?_
  have hu := hr.units
  have hu5 := hu_five hr
  have tk : L2N.Takes (cxOf (L2N.CX P w) P w K mg base N_need_fit "need_fit" (defScope s_need_fit) f cdv A outer s H E) (fun c d _ H => E c d H) := L2N.takes_of rfl rfl rfl rfl
  exact (b_one (s_if (PW.pt (w_or (s_testCmp (op_neA hu) says_ne (s_ix (s_var (i := 1) rfl (.inl rfl)) s_int) (s_bi call_len says_len (by rfl) T.n_len bt_len (c_cons (s_ix (s_var (i := 0) rfl (.inl rfl)) s_int) c_nil)) (nomark _)) (w_or1 (s_testCmp (op_neA hu) says_ne (s_bi call_len says_len (by rfl) T.n_len bt_len (c_cons (s_ix (s_var (i := 1) rfl (.inl rfl)) s_int) c_nil)) (s_bi call_len says_len (by rfl) T.n_len bt_len (c_cons (s_var (i := 0) rfl (.inl rfl)) c_nil)) (nomark _))))) (b_one (s_raise rfl tk T.e_BadSize (by rfl))) b_nil))
abbrev s_chosen_row : Stmt := topS 32
abbrev N_chosen_row : List Str := ["one", "other", "bits", "x"]
abbrev P_chosen_row : List Str := ["one", "other", "bits"]
theorem sc_chosen_row : FnScope N_chosen_row P_chosen_row (defScope s_chosen_row) := ⟨rfl, rfl, rfl, by decide +kernel, rfl, by decide +kernel, by decide +kernel⟩
noncomputable def b_chosen_row : MS :=
  (sRet (mComp (miR (mCons (mBi fLen (mConsT (mVar 0) mNilT)) mNil)) (gN 3) mYes (mIf (mTru (mCall m_bit_at [] (mCons (mVar 2) (mCons (mVar 3) mNil)))) (mBin fIx (mVar 1) (mVar 3)) (mBin fIx (mVar 0) (mVar 3))) [3]))
noncomputable def m_chosen_row : List W → GH → R W := mDef 4 b_chosen_row
theorem ok_chosen_row {f : Addr} {fd : FuncData} {dvs : List V} (F : FunD K "chosen_row" "chosen_row" (defArgs s_chosen_row) (defBody s_chosen_row) (defScope s_chosen_row) dvs [] f fd) (T : Tx K mg ca) (C_bit_at : Callable P w K mg base ca 1 "bit_at" P_bit_at [] m_bit_at) : FnOk P w K mg base (L2N.CX P w) 2 f fd P_chosen_row (spM K ca 3 m_chosen_row) := by
  refine def_okD (N := N_chosen_row) F sc_chosen_row fun cdv A outer s H E hr => ?_
  have hu := hr.units
  have hu5 := hu_five hr
  have tk : L2N.Takes (cxOf (L2N.CX P w) P w K mg base N_chosen_row "chosen_row" (defScope s_chosen_row) f cdv A outer s H E) (fun c d _ H => E c d H) := L2N.takes_of rfl rfl rfl rfl
  exact (b_one (s_ret (s_lc (own := [("x", 3)]) rfl sc_chosen_row.nd (i_range1 (by rfl) T.n_range (a_cons (s_bi call_len says_len (by rfl) T.n_len bt_len (c_cons (s_var (i := 0) rfl (.inr (.inl rfl))) c_nil)) a_nil)) (blkOk_by (N := N_chosen_row) (sc := defScope s_chosen_row) (by decide +kernel)) (fun _ _ _ _ _ => (pg_name (i := 3) sc_chosen_row.nd rfl (by first | exact .inl rfl | exact .inr rfl))) tgt_name (own_name (by decide)) (fun _ _ _ _ _ => ts_nil) (fun _ _ _ _ _ => (s_ife (s_truth (s_call C_bit_at (hr.mono (by decide)) (by rfl) takesN (a_cons (s_var (i := 2) rfl (by first | exact .inr (.inl rfl) | exact .inr (.inr rfl) | exact .inl rfl)) (a_cons (s_var (i := 3) rfl (by first | exact .inl rfl | exact .inr (.inl rfl))) a_nil)) (len_dws (len_cons (len_cons len_nil)) rfl))) (s_ix (s_var (i := 1) rfl (by first | exact .inr (.inl rfl) | exact .inr (.inr rfl) | exact .inl rfl)) (s_var (i := 3) rfl (by first | exact .inl rfl | exact .inr (.inl rfl)))) (s_ix (s_var (i := 0) rfl (by first | exact .inr (.inl rfl) | exact .inr (.inr rfl) | exact .inl rfl)) (s_var (i := 3) rfl (by first | exact .inl rfl | exact .inr (.inl rfl)))))))))
abbrev s_painted : Stmt := topS 33
abbrev N_painted : List Str := ["picture", "mask", "cell", "row", "bits"]
abbrev P_painted : List Str := ["picture", "mask", "cell"]
theorem sc_painted : FnScope N_painted P_painted (defScope s_painted) := ⟨rfl, rfl, rfl, by decide +kernel, rfl, by decide +kernel, by decide +kernel⟩
noncomputable def b_painted : MS :=
  (sSeq (sDrop (mCall m_need_picture [] (mCons (mVar 0) mNil))) (sSeq (sDrop (mCall m_need_masks [] (mCons (mLst (mCons (mVar 1) mNil)) mNil))) (sSeq (sDrop (mCall m_need_fit [] (mCons (mVar 0) (mCons (mVar 1) mNil)))) (sSeq (sDrop (mCall m_need_cell [] (mCons (mVar 2) mNil))) (sRet (mComp (miB iterZm (mConsT (mVar 0) (mConsT (mBin fIx (mVar 1) (mC (.int 1))) mNilT))) (gT (gC (gN 3) (gC (gN 4) gE))) mYes (mCall m_chosen_row [] (mCons (mVar 3) (mCons (mBin fMul (mLst (mCons (mVar 2) mNil)) (mBi fLen (mConsT (mVar 3) mNilT))) (mCons (mVar 4) mNil)))) [3, 4]))))))
noncomputable def m_painted : List W → GH → R W := mDef 5 b_painted
theorem ok_painted {f : Addr} {fd : FuncData} {dvs : List V} (F : FunD K "painted" "painted" (defArgs s_painted) (defBody s_painted) (defScope s_painted) dvs [] f fd) (T : Tx K mg ca) (C_chosen_row : Callable P w K mg base ca 2 "chosen_row" P_chosen_row [] m_chosen_row) (C_need_cell : Callable P w K mg base ca 3 "need_cell" P_need_cell [] m_need_cell) (C_need_fit : Callable P w K mg base ca 1 "need_fit" P_need_fit [] m_need_fit) (C_need_masks : Callable P w K mg base ca 3 "need_masks" P_need_masks [] m_need_masks) (C_need_picture : Callable P w K mg base ca 5 "need_picture" P_need_picture [] m_need_picture) : FnOk P w K mg base (L2N.CX P w) 6 f fd P_painted (spM K ca 3 m_painted) := by
  refine def_okD (N := N_painted) F sc_painted fun cdv A outer s H E hr => ?_
  have hu := hr.units
  have hu5 := hu_five hr
  have tk : L2N.Takes (cxOf (L2N.CX P w) P w K mg base N_painted "painted" (defScope s_painted) f cdv A outer s H E) (fun c d _ H => E c d H) := L2N.takes_of rfl rfl rfl rfl
  exact (b_cons (s_expr (s_call C_need_picture (hr.mono (by decide)) (by rfl) tk (a_cons (s_var (i := 0) rfl (.inl rfl)) a_nil) (len_dws (len_cons len_nil) rfl))) (b_cons (s_expr (s_call C_need_masks (hr.mono (by decide)) (by rfl) tk (a_cons (s_lst (a_cons (s_var (i := 1) rfl (.inl rfl)) a_nil)) a_nil) (len_dws (len_cons len_nil) rfl))) (b_cons (s_expr (s_call C_need_fit (hr.mono (by decide)) (by rfl) tk (a_cons (s_var (i := 0) rfl (.inl rfl)) (a_cons (s_var (i := 1) rfl (.inl rfl)) a_nil)) (len_dws (len_cons (len_cons len_nil)) rfl))) (b_cons (s_expr (s_call C_need_cell (hr.mono (by decide)) (by rfl) tk (a_cons (s_var (i := 2) rfl (.inr (.inl rfl))) a_nil) (len_dws (len_cons len_nil) rfl))) (b_one (s_ret (s_lc (own := [("row", 3), ("bits", 4)]) rfl sc_painted.nd (i_zipm (by rfl) T.n_zip (c_cons (s_var (i := 0) rfl (.inl rfl)) (c_cons (s_ix (s_var (i := 1) rfl (.inl rfl)) s_int) c_nil))) (blkOk_by (N := N_painted) (sc := defScope s_painted) (by decide +kernel)) (fun _ _ _ _ _ => (pg_tup rfl (pgs_cons (pg_name (i := 3) sc_painted.nd rfl (by first | exact .inl rfl | exact .inr rfl)) (pgs_cons (pg_name (i := 4) sc_painted.nd rfl (by first | exact .inl rfl | exact .inr rfl)) pgs_nil)))) (tgt_tup (tgt_cons tgt_name (tgt_cons tgt_name tgt_nil)) (gl_cons (gl_cons gl_nil))) (own_tup (own_cons (own_name (by decide)) mono_name (mono_cons mono_name mono_nil) (own_cons (own_name (by decide)) mono_name mono_nil own_nil))) (fun _ _ _ _ _ => ts_nil) (fun _ _ _ _ _ => (s_call C_chosen_row (hr.mono (by decide)) (by rfl) takesN (a_cons (s_var (i := 3) rfl (by first | exact .inl rfl | exact .inr (.inl rfl))) (a_cons (s_bin op_mulA says_mul (s_lst (a_cons (s_var (i := 2) rfl (by first | exact .inr (.inl rfl) | exact .inr (.inr rfl) | exact .inl rfl)) a_nil)) (s_bi call_len says_len (by rfl) T.n_len bt_len (c_cons (s_var (i := 3) rfl (by first | exact .inl rfl | exact .inr (.inl rfl))) c_nil))) (a_cons (s_var (i := 4) rfl (by first | exact .inl rfl | exact .inr (.inl rfl))) a_nil))) (len_dws (len_cons (len_cons (len_cons len_nil))) rfl))))))))))
abbrev s_chosen_cells : Stmt := topS 34
abbrev N_chosen_cells : List Str := ["one", "other", "mask", "y"]
abbrev P_chosen_cells : List Str := ["one", "other", "mask"]
theorem sc_chosen_cells : FnScope N_chosen_cells P_chosen_cells (defScope s_chosen_cells) := ⟨rfl, rfl, rfl, by decide +kernel, rfl, by decide +kernel, by decide +kernel⟩
noncomputable def b_chosen_cells : MS :=
  (sSeq (sDrop (mCall m_need_picture [] (mCons (mVar 0) mNil))) (sSeq (sDrop (mCall m_need_picture [] (mCons (mVar 1) mNil))) (sSeq (sDrop (mCall m_need_masks [] (mCons (mLst (mCons (mVar 2) mNil)) mNil))) (sSeq (sIf (mOr (mB (mBin fNe (mBi fLen (mConsT (mVar 1) mNilT)) (mBi fLen (mConsT (mVar 0) mNilT)))) (mB (mBin fNe (mBi fLen (mConsT (mBin fIx (mVar 1) (mC (.int 0))) mNilT)) (mBi fLen (mConsT (mBin fIx (mVar 0) (mC (.int 0))) mNilT))))) (sRaise 3) sNext) (sSeq (sDrop (mCall m_need_fit [] (mCons (mVar 0) (mCons (mVar 2) mNil)))) (sRet (mComp (miR (mCons (mBi fLen (mConsT (mVar 0) mNilT)) mNil)) (gN 3) mYes (mCall m_chosen_row [] (mCons (mBin fIx (mVar 0) (mVar 3)) (mCons (mBin fIx (mVar 1) (mVar 3)) (mCons (mBin fIx (mBin fIx (mVar 2) (mC (.int 1))) (mVar 3)) mNil)))) [3])))))))
noncomputable def m_chosen_cells : List W → GH → R W := mDef 4 b_chosen_cells
theorem ok_chosen_cells {f : Addr} {fd : FuncData} {dvs : List V} (F : FunD K "chosen_cells" "chosen_cells" (defArgs s_chosen_cells) (defBody s_chosen_cells) (defScope s_chosen_cells) dvs [] f fd) (T : Tx K mg ca) (C_chosen_row : Callable P w K mg base ca 2 "chosen_row" P_chosen_row [] m_chosen_row) (C_need_fit : Callable P w K mg base ca 1 "need_fit" P_need_fit [] m_need_fit) (C_need_masks : Callable P w K mg base ca 3 "need_masks" P_need_masks [] m_need_masks) (C_need_picture : Callable P w K mg base ca 5 "need_picture" P_need_picture [] m_need_picture) : FnOk P w K mg base (L2N.CX P w) 6 f fd P_chosen_cells (spM K ca 3 m_chosen_cells) := by
  refine def_okD (N := N_chosen_cells) F sc_chosen_cells fun cdv A outer s H E hr => ?_
  have hu := hr.units
  have hu5 := hu_five hr
  have tk : L2N.Takes (cxOf (L2N.CX P w) P w K mg base N_chosen_cells "chosen_cells" (defScope s_chosen_cells) f cdv A outer s H E) (fun c d _ H => E c d H) := L2N.takes_of rfl rfl rfl rfl
  exact (b_cons (s_expr (s_call C_need_picture (hr.mono (by decide)) (by rfl) tk (a_cons (s_var (i := 0) rfl (.inr (.inl rfl))) a_nil) (len_dws (len_cons len_nil) rfl))) (b_cons (s_expr (s_call C_need_picture (hr.mono (by decide)) (by rfl) tk (a_cons (s_var (i := 1) rfl (.inr (.inl rfl))) a_nil) (len_dws (len_cons len_nil) rfl))) (b_cons (s_expr (s_call C_need_masks (hr.mono (by decide)) (by rfl) tk (a_cons (s_lst (a_cons (s_var (i := 2) rfl (.inr (.inl rfl))) a_nil)) a_nil) (len_dws (len_cons len_nil) rfl))) (b_cons (s_if (PW.pt (w_or (s_testCmp (op_neA hu) says_ne (s_bi call_len says_len (by rfl) T.n_len bt_len (c_cons (s_var (i := 1) rfl (.inr (.inl rfl))) c_nil)) (s_bi call_len says_len (by rfl) T.n_len bt_len (c_cons (s_var (i := 0) rfl (.inr (.inl rfl))) c_nil)) (nomark _)) (w_or1 (s_testCmp (op_neA hu) says_ne (s_bi call_len says_len (by rfl) T.n_len bt_len (c_cons (s_ix (s_var (i := 1) rfl (.inr (.inl rfl))) s_int) c_nil)) (s_bi call_len says_len (by rfl) T.n_len bt_len (c_cons (s_ix (s_var (i := 0) rfl (.inr (.inl rfl))) s_int) c_nil)) (nomark _))))) (b_one (s_raise rfl tk T.e_BadSize (by rfl))) b_nil) (b_cons (s_expr (s_call C_need_fit (hr.mono (by decide)) (by rfl) tk (a_cons (s_var (i := 0) rfl (.inr (.inl rfl))) (a_cons (s_var (i := 2) rfl (.inr (.inl rfl))) a_nil)) (len_dws (len_cons (len_cons len_nil)) rfl))) (b_one (s_ret (s_lc (own := [("y", 3)]) rfl sc_chosen_cells.nd (i_range1 (by rfl) T.n_range (a_cons (s_bi call_len says_len (by rfl) T.n_len bt_len (c_cons (s_var (i := 0) rfl (.inr (.inl rfl))) c_nil)) a_nil)) (blkOk_by (N := N_chosen_cells) (sc := defScope s_chosen_cells) (by decide +kernel)) (fun _ _ _ _ _ => (pg_name (i := 3) sc_chosen_cells.nd rfl (by first | exact .inl rfl | exact .inr rfl))) tgt_name (own_name (by decide)) (fun _ _ _ _ _ => ts_nil) (fun _ _ _ _ _ => (s_call C_chosen_row (hr.mono (by decide)) (by rfl) takesN (a_cons (s_ix (s_var (i := 0) rfl (by first | exact .inr (.inl rfl) | exact .inr (.inr rfl) | exact .inl rfl)) (s_var (i := 3) rfl (by first | exact .inl rfl | exact .inr (.inl rfl)))) (a_cons (s_ix (s_var (i := 1) rfl (by first | exact .inr (.inl rfl) | exact .inr (.inr rfl) | exact .inl rfl)) (s_var (i := 3) rfl (by first | exact .inl rfl | exact .inr (.inl rfl)))) (a_cons (s_ix (s_ix (s_var (i := 2) rfl (by first | exact .inr (.inl rfl) | exact .inr (.inr rfl) | exact .inl rfl)) s_int) (s_var (i := 3) rfl (by first | exact .inl rfl | exact .inr (.inl rfl)))) a_nil))) (len_dws (len_cons (len_cons (len_cons len_nil))) rfl)))))))))))
abbrev s_law_cell : Stmt := topS 36
abbrev N_law_cell : List Str := ["_law_script", "_law_k"]
abbrev P_law_cell : List Str := ["_law_script", "_law_k"]
theorem sc_law_cell : FnScope N_law_cell P_law_cell (defScope s_law_cell) := ⟨rfl, rfl, rfl, by decide +kernel, rfl, by decide +kernel, by decide +kernel⟩
noncomputable def b_law_cell : MS :=
  (sSeq (sIf (mB (mBin fLt (mVar 1) (mBi fLen (mConsT (mVar 0) mNilT)))) (sRet (mBin fIx (mVar 0) (mVar 1))) sNext) (sRet (mC (.int 0))))
noncomputable def m_law_cell : List W → GH → R W := mDef 2 b_law_cell
theorem ok_law_cell {f : Addr} {fd : FuncData} {dvs : List V} (F : FunD K "_law_cell" "_law_cell" (defArgs s_law_cell) (defBody s_law_cell) (defScope s_law_cell) dvs [] f fd) (T : Tx K mg ca) : FnOk P w K mg base (L2N.CX P w) 1 f fd P_law_cell (spM K ca 2 m_law_cell) := by
  refine def_okD (N := N_law_cell) F sc_law_cell fun cdv A outer s H E hr => ?_
  have hu := hr.units
  have hu5 := hu_five hr
  have tk : L2N.Takes (cxOf (L2N.CX P w) P w K mg base N_law_cell "_law_cell" (defScope s_law_cell) f cdv A outer s H E) (fun c d _ H => E c d H) := L2N.takes_of rfl rfl rfl rfl
  exact (b_cons (s_if (s_testCmp op_lt says_C (s_var (i := 1) rfl (.inl rfl)) (s_bi call_len says_len (by rfl) T.n_len bt_len (c_cons (s_var (i := 0) rfl (.inl rfl)) c_nil)) (nomark _)) (b_one (s_ret (s_ix (s_var (i := 0) rfl (.inl rfl)) (s_var (i := 1) rfl (.inl rfl))))) b_nil) (b_one (s_ret s_int)))
abbrev s_law_mixed : Stmt := topS 37
abbrev N_law_mixed : List Str := ["_law_script", "_law_k", "_law_number"]
abbrev P_law_mixed : List Str := ["_law_script", "_law_k"]
theorem sc_law_mixed : FnScope N_law_mixed P_law_mixed (defScope s_law_mixed) := ⟨rfl, rfl, rfl, by decide +kernel, rfl, by decide +kernel, by decide +kernel⟩
noncomputable def b_law_mixed : MS :=
  (sSeq (sSet 2 (mBin fAdd (mBin fAdd (mCall m_law_cell [] (mCons (mVar 0) (mCons (mVar 1) mNil))) (mBin fMul (mC (.int 7919)) (mVar 1))) (mC (.int 13)))) (sRet (mBin fFdiv (mBin fMod (mBin fMul (mBin fMod (mBin fMul (mVar 2) (mVar 2)) (mC (.int 1000000007))) (mVar 2)) (mC (.int 998244353))) (mC (.int 11)))))
noncomputable def m_law_mixed : List W → GH → R W := mDef 3 b_law_mixed
theorem ok_law_mixed {f : Addr} {fd : FuncData} {dvs : List V} (F : FunD K "_law_mixed" "_law_mixed" (defArgs s_law_mixed) (defBody s_law_mixed) (defScope s_law_mixed) dvs [] f fd) (T : Tx K mg ca) (C_law_cell : Callable P w K mg base ca 1 "_law_cell" P_law_cell [] m_law_cell) : FnOk P w K mg base (L2N.CX P w) 2 f fd P_law_mixed (spM K ca 2 m_law_mixed) := by
  refine def_okD (N := N_law_mixed) F sc_law_mixed fun cdv A outer s H E hr => ?_
  have hu := hr.units
  have hu5 := hu_five hr
  have tk : L2N.Takes (cxOf (L2N.CX P w) P w K mg base N_law_mixed "_law_mixed" (defScope s_law_mixed) f cdv A outer s H E) (fun c d _ H => E c d H) := L2N.takes_of rfl rfl rfl rfl
  exact (b_cons (s_set (i := 2) sc_law_mixed.nd rfl (.inl rfl) (s_bin op_addA says_add (s_bin op_addA says_add (s_call C_law_cell (hr.mono (by decide)) (by rfl) tk (a_cons (s_var (i := 0) rfl (.inl rfl)) (a_cons (s_var (i := 1) rfl (.inl rfl)) a_nil)) (len_dws (len_cons (len_cons len_nil)) rfl)) (s_bin op_mulA says_mul s_int (s_var (i := 1) rfl (.inl rfl)))) s_int)) (b_one (s_ret (s_bin op_fdivW says_fdiv (s_bin op_mod says_mod (s_bin op_mulA says_mul (s_bin op_mod says_mod (s_bin op_mulA says_mul (s_var (i := 2) rfl (.inl rfl)) (s_var (i := 2) rfl (.inl rfl))) s_int) (s_var (i := 2) rfl (.inl rfl))) s_int) s_int))))
abbrev s_law_whole : Stmt := topS 38
abbrev N_law_whole : List Str := ["_law_found"]
abbrev P_law_whole : List Str := ["_law_found"]
theorem sc_law_whole : FnScope N_law_whole P_law_whole (defScope s_law_whole) := ⟨rfl, rfl, rfl, by decide +kernel, rfl, by decide +kernel, by decide +kernel⟩
noncomputable def b_law_whole : MS :=
  (sRet (mAndV (mBi fIsi (mConsT (mVar 0) (mConsT (mC (.ty "int")) mNilT))) (mNotV (mBi fIsi (mConsT (mVar 0) (mConsT (mC (.ty "bool")) mNilT))))))
noncomputable def m_law_whole : List W → GH → R W := mDef 1 b_law_whole
theorem ok_law_whole {f : Addr} {fd : FuncData} {dvs : List V} (F : FunD K "_law_whole" "_law_whole" (defArgs s_law_whole) (defBody s_law_whole) (defScope s_law_whole) dvs [] f fd) (T : Tx K mg ca) : FnOk P w K mg base (L2N.CX P w) 1 f fd P_law_whole (spM K ca 1 m_law_whole) := by
  refine def_okD (N := N_law_whole) F sc_law_whole fun cdv A outer s H E hr => ?_
  have hu := hr.units
  have hu5 := hu_five hr
  have tk : L2N.Takes (cxOf (L2N.CX P w) P w K mg base N_law_whole "_law_whole" (defScope s_law_whole) f cdv A outer s H E) (fun c d _ H => E c d H) := L2N.takes_of rfl rfl rfl rfl
  exact (b_one (s_ret (v_and (s_bi call_isi says_isi (by rfl) T.n_isinstance bt_isinstance (c_cons (s_var (i := 0) rfl (.inl rfl)) (c_cons (s_ty (by rfl) T.n_int bt_int) c_nil))) (v_one (v_not (s_bi call_isi says_isi (by rfl) T.n_isinstance bt_isinstance (c_cons (s_var (i := 0) rfl (.inl rfl)) (c_cons (s_ty (by rfl) T.n_bool bt_bool) c_nil))))))))
abbrev s_law_power : Stmt := topS 39
abbrev N_law_power : List Str := ["_law_place", "_law_found", "_law_turn"]
abbrev P_law_power : List Str := ["_law_place"]
theorem sc_law_power : FnScope N_law_power P_law_power (defScope s_law_power) := ⟨rfl, rfl, rfl, by decide +kernel, rfl, by decide +kernel, by decide +kernel⟩
noncomputable def b_law_power : MS :=
  (sSeq (sSet 1 (mC (.int 1))) (sSeq (sFor (miR (mCons (mVar 0) mNil)) (gN 2) (sSet 1 (mBin fMul (mC (.int 2)) (mVar 1)))) (sRet (mVar 1))))
noncomputable def m_law_power : List W → GH → R W := mDef 3 b_law_power
theorem ok_law_power {f : Addr} {fd : FuncData} {dvs : List V} (F : FunD K "_law_power" "_law_power" (defArgs s_law_power) (defBody s_law_power) (defScope s_law_power) dvs [] f fd) (T : Tx K mg ca) : FnOk P w K mg base (L2N.CX P w) 1 f fd P_law_power (spM K ca 1 m_law_power) := by
  refine def_okD (N := N_law_power) F sc_law_power fun cdv A outer s H E hr => ?_
  have hu := hr.units
  have hu5 := hu_five hr
  have tk : L2N.Takes (cxOf (L2N.CX P w) P w K mg base N_law_power "_law_power" (defScope s_law_power) f cdv A outer s H E) (fun c d _ H => E c d H) := L2N.takes_of rfl rfl rfl rfl
  exact (b_cons (s_set (i := 1) sc_law_power.nd rfl (.inl rfl) s_int) (b_cons (s_for (passes_of rfl) rfl (i_range1 (by rfl) T.n_range (a_cons (s_var (i := 0) rfl (.inl rfl)) a_nil)) (g_name (i := 2) sc_law_power.nd rfl (.inl rfl)) (b_one (s_set (i := 1) sc_law_power.nd rfl (.inl rfl) (s_bin op_mulA says_mul s_int (s_var (i := 1) rfl (.inl rfl)))))) (b_one (s_ret (s_var (i := 1) rfl (.inl rfl))))))
abbrev s_law_picture : Stmt := topS 40
abbrev N_law_picture : List Str := ["_law_script", "_law_at", "_law_most", "_law_drawn", "_law_high", "_law_many", "_law_number", "_law_one", "_law_rows", "_law_step", "_law_wide", "_law_y", "_law_x", "_law_cell_here"]
abbrev P_law_picture : List Str := ["_law_script", "_law_at", "_law_most"]
theorem sc_law_picture : FnScope N_law_picture P_law_picture (defScope s_law_picture) := ⟨rfl, rfl, rfl, by decide +kernel, rfl, by decide +kernel, by decide +kernel⟩
noncomputable def b_law_picture : MS :=
  (sSeq (sSet 6 (mCall m_law_mixed [] (mCons (mVar 0) (mCons (mVar 1) mNil)))) (sSeq (sSet 10 (mBin fAdd (mC (.int 1)) (mBin fMod (mVar 6) (mVar 2)))) (sSeq (sSet 4 (mBin fAdd (mC (.int 1)) (mBin fMod (mBin fFdiv (mVar 6) (mC (.int 30))) (mVar 2)))) (sSeq (sIf (mB (mBin fEq (mBin fMod (mBin fFdiv (mVar 6) (mC (.int 900))) (mC (.int 16))) (mC (.int 3)))) (sPar 10 4 (mCons (mBin fAdd (mC (.int 1)) (mBin fMod (mBin fFdiv (mVar 6) (mC (.int 14400))) (mC (.int 24)))) (mCons (mBi fMin (mConsT (mVar 4) (mConsT (mC (.int 2)) mNilT))) mNil))) sNext) (sSeq (sIf (mB (mBin fEq (mBin fMod (mBin fFdiv (mVar 6) (mC (.int 900))) (mC (.int 16))) (mC (.int 4)))) (sPar 10 4 (mCons (mBi fMin (mConsT (mVar 10) (mConsT (mC (.int 2)) mNilT))) (mCons (mBin fAdd (mC (.int 1)) (mBin fMod (mBin fFdiv (mVar 6) (mC (.int 14400))) (mC (.int 24)))) mNil))) sNext) (sSeq (sSet 5 (mBin fIx (mLst (mCons (mC (.int 2)) (mCons (mC (.int 3)) (mCons (mC (.int 2)) (mCons (mC (.int 16)) (mCons (mC (.int 1)) (mCons (mC (.int 2)) mNil))))))) (mBin fMod (mBin fFdiv (mVar 6) (mC (.int 360000))) (mC (.int 6))))) (sSeq (sSet 9 (mBin fIx (mLst (mCons (mC (.int 1)) (mCons (mC (.int 3)) (mCons (mC (.int 5)) (mCons (mC (.int 7)) (mCons (mC (.int 9)) (mCons (mC (.int 11)) (mCons (mC (.int 13)) (mCons (mC (.int 15)) mNil))))))))) (mBin fMod (mBin fFdiv (mVar 6) (mC (.int 17))) (mC (.int 8))))) (sSeq (sSet 8 (mLst mNil)) (sSeq (sFor (miR (mCons (mVar 4) mNil)) (gN 11) (sSeq (sSet 7 (mBin fAdd (mCall m_law_mixed [] (mCons (mVar 0) (mCons (mBin fAdd (mBin fAdd (mVar 1) (mC (.int 1))) (mBin fMod (mVar 11) (mC (.int 10)))) mNil))) (mBin fMul (mBin fMul (mC (.int 611)) (mVar 11)) (mVar 11)))) (sSeq (sSet 3 (mComp (miR (mCons (mVar 10) mNil)) (gN 12) mYes (mBin fMod (mBin fFdiv (mBin fMod (mBin fMul (mVar 7) (mBin fAdd (mBin fAdd (mBin fMul (mVar 12) (mVar 12)) (mBin fMul (mC (.int 3)) (mVar 12))) (mC (.int 7)))) (mC (.int 1000003))) (mC (.int 11))) (mVar 5)) [12])) (sDrop (mMtF isLst fApp (mVar 8) (mCons (mComp (miA (mVar 3)) (gN 13) mYes (mBin fMod (mBin fAdd (mBin fFdiv (mVar 6) (mC (.int 131))) (mBin fMul (mVar 13) (mVar 9))) (mC (.int 16))) [13]) mNil)))))) (sRet (mVar 8)))))))))))
noncomputable def m_law_picture : List W → GH → R W := mDef 14 b_law_picture
theorem ok_law_picture {f : Addr} {fd : FuncData} {dvs : List V} (F : FunD K "_law_picture" "_law_picture" (defArgs s_law_picture) (defBody s_law_picture) (defScope s_law_picture) dvs [] f fd) (T : Tx K mg ca) (C_law_mixed : Callable P w K mg base ca 2 "_law_mixed" P_law_mixed [] m_law_mixed) : FnOk P w K mg base (L2N.CX P w) 3 f fd P_law_picture (spM K ca 3 m_law_picture) := by
  refine def_okD (N := N_law_picture) F sc_law_picture fun cdv A outer s H E hr => ?_
  have hu := hr.units
  have hu5 := hu_five hr
  have tk : L2N.Takes (cxOf (L2N.CX P w) P w K mg base N_law_picture "_law_picture" (defScope s_law_picture) f cdv A outer s H E) (fun c d _ H => E c d H) := L2N.takes_of rfl rfl rfl rfl
  exact (b_cons (s_set (i := 6) sc_law_picture.nd rfl (.inr rfl) (s_call C_law_mixed (hr.mono (by decide)) (by rfl) tk (a_cons (s_var (i := 0) rfl (.inl rfl)) (a_cons (s_var (i := 1) rfl (.inl rfl)) a_nil)) (len_dws (len_cons (len_cons len_nil)) rfl))) (b_cons (s_set (i := 10) sc_law_picture.nd rfl (.inl rfl) (s_bin op_addA says_add s_int (s_bin op_mod says_mod (s_var (i := 6) rfl (.inr (.inl rfl))) (s_var (i := 2) rfl (.inl rfl))))) (b_cons (s_set (i := 4) sc_law_picture.nd rfl (.inl rfl) (s_bin op_addA says_add s_int (s_bin op_mod says_mod (s_bin op_fdivW says_fdiv (s_var (i := 6) rfl (.inr (.inl rfl))) s_int) (s_var (i := 2) rfl (.inl rfl))))) (b_cons (s_if (s_testCmp (op_eqA hu) says_eq (s_bin op_mod says_mod (s_bin op_fdivW says_fdiv (s_var (i := 6) rfl (.inr (.inl rfl))) s_int) s_int) s_int (nomark _)) (b_one (s_par (i := 10) (j := 4) rfl sc_law_picture.nd rfl rfl (by decide) rfl rfl (a_cons (s_bin op_addA says_add s_int (s_bin op_mod says_mod (s_bin op_fdivW says_fdiv (s_var (i := 6) rfl (.inr (.inl rfl))) s_int) s_int)) (a_cons (s_bi (call_min2 rfl) says_min (by rfl) T.n_min bt_min (c_cons (s_var (i := 4) rfl (.inl rfl)) (c_cons s_int c_nil))) a_nil)) (by rfl))) b_nil) (b_cons (s_if (s_testCmp (op_eqA hu) says_eq (s_bin op_mod says_mod (s_bin op_fdivW says_fdiv (s_var (i := 6) rfl (.inr (.inl rfl))) s_int) s_int) s_int (nomark _)) (b_one (s_par (i := 10) (j := 4) rfl sc_law_picture.nd rfl rfl (by decide) rfl rfl (a_cons (s_bi (call_min2 rfl) says_min (by rfl) T.n_min bt_min (c_cons (s_var (i := 10) rfl (.inl rfl)) (c_cons s_int c_nil))) (a_cons (s_bin op_addA says_add s_int (s_bin op_mod says_mod (s_bin op_fdivW says_fdiv (s_var (i := 6) rfl (.inr (.inl rfl))) s_int) s_int)) a_nil)) (by rfl))) b_nil) (b_cons (s_set (i := 5) sc_law_picture.nd rfl (.inr rfl) (s_ix (s_lst (a_cons s_int (a_cons s_int (a_cons s_int (a_cons s_int (a_cons s_int (a_cons s_int a_nil))))))) (s_bin op_mod says_mod (s_bin op_fdivW says_fdiv (s_var (i := 6) rfl (.inr (.inl rfl))) s_int) s_int))) (b_cons (s_set (i := 9) sc_law_picture.nd rfl (.inr rfl) (s_ix (s_lst (a_cons s_int (a_cons s_int (a_cons s_int (a_cons s_int (a_cons s_int (a_cons s_int (a_cons s_int (a_cons s_int a_nil))))))))) (s_bin op_mod says_mod (s_bin op_fdivW says_fdiv (s_var (i := 6) rfl (.inr (.inl rfl))) s_int) s_int))) (b_cons (s_set (i := 8) sc_law_picture.nd rfl (.inl rfl) (s_lst a_nil)) (b_cons (s_for (passes_of rfl) rfl (i_range1 (by rfl) T.n_range (a_cons (s_var (i := 4) rfl (.inl rfl)) a_nil)) (g_name (i := 11) sc_law_picture.nd rfl (.inl rfl)) (b_cons (s_set (i := 7) sc_law_picture.nd rfl (.inr rfl) (s_bin op_addA says_add (s_call C_law_mixed (hr.mono (by decide)) (by rfl) tk (a_cons (s_var (i := 0) rfl (.inl rfl)) (a_cons (s_bin op_addA says_add (s_bin op_addA says_add (s_var (i := 1) rfl (.inl rfl)) s_int) (s_bin op_mod says_mod (s_var (i := 11) rfl (.inl rfl)) s_int)) a_nil)) (len_dws (len_cons (len_cons len_nil)) rfl)) (s_bin op_mulA says_mul (s_bin op_mulA says_mul s_int (s_var (i := 11) rfl (.inl rfl))) (s_var (i := 11) rfl (.inl rfl))))) (b_cons (s_setLc (i := 3) (own := [("_law_x", 12)]) rfl sc_law_picture.nd rfl rfl (sw_true rfl rfl rfl (by decide +kernel)) (i_range1 (by rfl) T.n_range (a_cons (s_var (i := 10) rfl (.inl rfl)) a_nil)) (blkOk_by (N := N_law_picture) (sc := defScope s_law_picture) (by decide +kernel)) (fun _ _ _ _ _ => (pg_name (i := 12) sc_law_picture.nd rfl (by first | exact .inl rfl | exact .inr rfl))) tgt_name (own_name (by decide)) (fun _ _ _ _ _ => ts_nil) (fun _ _ _ _ _ => (s_bin op_mod says_mod (s_bin op_fdivW says_fdiv (s_bin op_mod says_mod (s_bin op_mulA says_mul (s_var (i := 7) rfl (by first | exact .inr (.inl rfl) | exact .inr (.inr rfl) | exact .inl rfl)) (s_bin op_addA says_add (s_bin op_addA says_add (s_bin op_mulA says_mul (s_var (i := 12) rfl (by first | exact .inl rfl | exact .inr (.inl rfl))) (s_var (i := 12) rfl (by first | exact .inl rfl | exact .inr (.inl rfl)))) (s_bin op_mulA says_mul s_int (s_var (i := 12) rfl (by first | exact .inl rfl | exact .inr (.inl rfl))))) s_int)) s_int) s_int) (s_var (i := 5) rfl (by first | exact .inr (.inl rfl) | exact .inr (.inr rfl) | exact .inl rfl))))) (b_one (s_expr (s_mtF PySem.F.plainAttrs_list PySem.F.slot_list_append PySem.F.type_list_append mt_append says_app ty_list (s_var (i := 8) rfl (.inl rfl)) (a_cons (s_lc (own := [("_law_cell_here", 13)]) rfl sc_law_picture.nd (i_any (s_var (i := 3) rfl (.inl rfl))) (blkOk_by (N := N_law_picture) (sc := defScope s_law_picture) (by decide +kernel)) (fun _ _ _ _ _ => (pg_name (i := 13) sc_law_picture.nd rfl (by first | exact .inl rfl | exact .inr rfl))) tgt_name (own_name (by decide)) (fun _ _ _ _ _ => ts_nil) (fun _ _ _ _ _ => (s_bin op_mod says_mod (s_bin op_addA says_add (s_bin op_fdivW says_fdiv (s_var (i := 6) rfl (by first | exact .inr (.inl rfl) | exact .inr (.inr rfl) | exact .inl rfl)) s_int) (s_bin op_mulA says_mul (s_var (i := 13) rfl (by first | exact .inl rfl | exact .inr (.inl rfl))) (s_var (i := 9) rfl (by first | exact .inr (.inl rfl) | exact .inr (.inr rfl) | exact .inl rfl)))) s_int))) a_nil))))))) (b_one (s_ret (s_var (i := 8) rfl (.inl rfl)))))))))))))
abbrev s_law_mask : Stmt := topS 41
abbrev N_law_mask : List Str := ["_law_script", "_law_at", "_law_wide", "_law_high", "_law_full", "_law_number", "_law_one", "_law_rows", "_law_y"]
abbrev P_law_mask : List Str := ["_law_script", "_law_at", "_law_wide", "_law_high"]
theorem sc_law_mask : FnScope N_law_mask P_law_mask (defScope s_law_mask) := ⟨rfl, rfl, rfl, by decide +kernel, rfl, by decide +kernel, by decide +kernel⟩
noncomputable def b_law_mask : MS :=
  (sSeq (sSet 7 (mLst mNil)) (sSeq (sSet 4 (mBin fSub (mCall m_law_power [] (mCons (mVar 2) mNil)) (mC (.int 1)))) (sSeq (sFor (miR (mCons (mVar 3) mNil)) (gN 8) (sSeq (sSet 5 (mBin fAdd (mCall m_law_mixed [] (mCons (mVar 0) (mCons (mBin fAdd (mVar 1) (mBin fMod (mVar 8) (mC (.int 10)))) mNil))) (mBin fMul (mBin fMul (mC (.int 977)) (mVar 8)) (mVar 8)))) (sSeq (sSet 6 (mBin fMod (mBin fMod (mBin fMul (mVar 5) (mC (.int 40692))) (mC (.int 1000000007))) (mBin fAdd (mVar 4) (mC (.int 1))))) (sDrop (mMtF isLst fApp (mVar 7) (mCons (mBin fIx (mLst (mCons (mVar 6) (mCons (mC (.int 0)) (mCons (mVar 4) (mCons (mBin fMod (mBin fMul (mVar 5) (mC (.int 16807))) (mBin fAdd (mVar 4) (mC (.int 1)))) (mCons (mVar 6) (mCons (mVar 6) mNil))))))) (mBin fMod (mBin fFdiv (mVar 5) (mC (.int 3))) (mC (.int 6)))) mNil)))))) (sRet (mTup (mCons (mVar 2) (mCons (mBi fTuple (mConsT (mVar 7) mNilT)) mNil)))))))
noncomputable def m_law_mask : List W → GH → R W := mDef 9 b_law_mask
theorem ok_law_mask {f : Addr} {fd : FuncData} {dvs : List V} (F : FunD K "_law_mask" "_law_mask" (defArgs s_law_mask) (defBody s_law_mask) (defScope s_law_mask) dvs [] f fd) (T : Tx K mg ca) (C_law_mixed : Callable P w K mg base ca 2 "_law_mixed" P_law_mixed [] m_law_mixed) (C_law_power : Callable P w K mg base ca 1 "_law_power" P_law_power [] m_law_power) : FnOk P w K mg base (L2N.CX P w) 3 f fd P_law_mask (spM K ca 4 m_law_mask) := by
  refine def_okD (N := N_law_mask) F sc_law_mask fun cdv A outer s H E hr => ?_
  have hu := hr.units
  have hu5 := hu_five hr
  have tk : L2N.Takes (cxOf (L2N.CX P w) P w K mg base N_law_mask "_law_mask" (defScope s_law_mask) f cdv A outer s H E) (fun c d _ H => E c d H) := L2N.takes_of rfl rfl rfl rfl
  exact (b_cons (s_set (i := 7) sc_law_mask.nd rfl (.inl rfl) (s_lst a_nil)) (b_cons (s_set (i := 4) sc_law_mask.nd rfl (.inl rfl) (s_bin op_sub says_sub (s_call C_law_power (hr.mono (by decide)) (by rfl) tk (a_cons (s_var (i := 2) rfl (.inl rfl)) a_nil) (len_dws (len_cons len_nil) rfl)) s_int)) (b_cons (s_for (passes_of rfl) rfl (i_range1 (by rfl) T.n_range (a_cons (s_var (i := 3) rfl (.inl rfl)) a_nil)) (g_name (i := 8) sc_law_mask.nd rfl (.inl rfl)) (b_cons (s_set (i := 5) sc_law_mask.nd rfl (.inl rfl) (s_bin op_addA says_add (s_call C_law_mixed (hr.mono (by decide)) (by rfl) tk (a_cons (s_var (i := 0) rfl (.inl rfl)) (a_cons (s_bin op_addA says_add (s_var (i := 1) rfl (.inl rfl)) (s_bin op_mod says_mod (s_var (i := 8) rfl (.inl rfl)) s_int)) a_nil)) (len_dws (len_cons (len_cons len_nil)) rfl)) (s_bin op_mulA says_mul (s_bin op_mulA says_mul s_int (s_var (i := 8) rfl (.inl rfl))) (s_var (i := 8) rfl (.inl rfl))))) (b_cons (s_set (i := 6) sc_law_mask.nd rfl (.inl rfl) (s_bin op_mod says_mod (s_bin op_mod says_mod (s_bin op_mulA says_mul (s_var (i := 5) rfl (.inl rfl)) s_int) s_int) (s_bin op_addA says_add (s_var (i := 4) rfl (.inl rfl)) s_int))) (b_one (s_expr (s_mtF PySem.F.plainAttrs_list PySem.F.slot_list_append PySem.F.type_list_append mt_append says_app ty_list (s_var (i := 7) rfl (.inl rfl)) (a_cons (s_ix (s_lst (a_cons (s_var (i := 6) rfl (.inl rfl)) (a_cons s_int (a_cons (s_var (i := 4) rfl (.inl rfl)) (a_cons (s_bin op_mod says_mod (s_bin op_mulA says_mul (s_var (i := 5) rfl (.inl rfl)) s_int) (s_bin op_addA says_add (s_var (i := 4) rfl (.inl rfl)) s_int)) (a_cons (s_var (i := 6) rfl (.inl rfl)) (a_cons (s_var (i := 6) rfl (.inl rfl)) a_nil))))))) (s_bin op_mod says_mod (s_bin op_fdivW says_fdiv (s_var (i := 5) rfl (.inl rfl)) s_int) s_int)) a_nil))))))) (b_one (s_ret (s_tup (a_cons (s_var (i := 2) rfl (.inl rfl)) (a_cons (s_bty call_tuple_of says_tuple (by rfl) T.n_tuple bt_tuple (c_cons (s_var (i := 7) rfl (.inl rfl)) c_nil)) a_nil))))))))
abbrev s_law_places : Stmt := topS 42
abbrev N_law_places : List Str := ["_law_mask_here", "_law_found", "_law_rest", "_law_x", "_law_y"]
abbrev P_law_places : List Str := ["_law_mask_here"]
theorem sc_law_places : FnScope N_law_places P_law_places (defScope s_law_places) := ⟨rfl, rfl, rfl, by decide +kernel, rfl, by decide +kernel, by decide +kernel⟩
noncomputable def b_law_places : MS :=
  (sSeq (sSet 1 (mLst mNil)) (sSeq (sFor (miR (mCons (mBi fLen (mConsT (mBin fIx (mVar 0) (mC (.int 1))) mNilT)) mNil)) (gN 4) (sSeq (sSet 2 (mBin fIx (mBin fIx (mVar 0) (mC (.int 1))) (mVar 4))) (sFor (miR (mCons (mBin fIx (mVar 0) (mC (.int 0))) mNil)) (gN 3) (sSeq (sIf (mB (mBin fEq (mBin fMod (mVar 2) (mC (.int 2))) (mC (.int 1)))) (sDrop (mMtF isLst fApp (mVar 1) (mCons (mTup (mCons (mVar 3) (mCons (mVar 4) mNil))) mNil))) sNext) (sSet 2 (mBin fFdiv (mVar 2) (mC (.int 2)))))))) (sRet (mVar 1))))
noncomputable def m_law_places : List W → GH → R W := mDef 5 b_law_places
theorem ok_law_places {f : Addr} {fd : FuncData} {dvs : List V} (F : FunD K "_law_places" "_law_places" (defArgs s_law_places) (defBody s_law_places) (defScope s_law_places) dvs [] f fd) (T : Tx K mg ca) : FnOk P w K mg base (L2N.CX P w) 1 f fd P_law_places (spM K ca 1 m_law_places) := by
  refine def_okD (N := N_law_places) F sc_law_places fun cdv A outer s H E hr => ?_
  have hu := hr.units
  have hu5 := hu_five hr
  have tk : L2N.Takes (cxOf (L2N.CX P w) P w K mg base N_law_places "_law_places" (defScope s_law_places) f cdv A outer s H E) (fun c d _ H => E c d H) := L2N.takes_of rfl rfl rfl rfl
  exact (b_cons (s_set (i := 1) sc_law_places.nd rfl (.inl rfl) (s_lst a_nil)) (b_cons (s_for (passes_of rfl) rfl (i_range1 (by rfl) T.n_range (a_cons (s_bi call_len says_len (by rfl) T.n_len bt_len (c_cons (s_ix (s_var (i := 0) rfl (.inl rfl)) s_int) c_nil)) a_nil)) (g_name (i := 4) sc_law_places.nd rfl (.inl rfl)) (b_cons (s_set (i := 2) sc_law_places.nd rfl (.inl rfl) (s_ix (s_ix (s_var (i := 0) rfl (.inl rfl)) s_int) (s_var (i := 4) rfl (.inl rfl)))) (b_one (s_for (passes_of rfl) rfl (i_range1 (by rfl) T.n_range (a_cons (s_ix (s_var (i := 0) rfl (.inl rfl)) s_int) a_nil)) (g_name (i := 3) sc_law_places.nd rfl (.inl rfl)) (b_cons (s_if (s_testCmp (op_eqA hu) says_eq (s_bin op_mod says_mod (s_var (i := 2) rfl (.inl rfl)) s_int) s_int (nomark _)) (b_one (s_expr (s_mtF PySem.F.plainAttrs_list PySem.F.slot_list_append PySem.F.type_list_append mt_append says_app ty_list (s_var (i := 1) rfl (.inl rfl)) (a_cons (s_tup (a_cons (s_var (i := 3) rfl (.inl rfl)) (a_cons (s_var (i := 4) rfl (.inl rfl)) a_nil))) a_nil)))) b_nil) (b_one (s_set (i := 2) sc_law_places.nd rfl (.inl rfl) (s_bin op_fdivW says_fdiv (s_var (i := 2) rfl (.inl rfl)) s_int)))))))) (b_one (s_ret (s_var (i := 1) rfl (.inl rfl))))))
abbrev s_law_mask_by : Stmt := topS 43
abbrev N_law_mask_by : List Str := ["_law_places_here", "_law_wide", "_law_high", "_law_rows", "_law_x", "_law_y"]
abbrev P_law_mask_by : List Str := ["_law_places_here", "_law_wide", "_law_high"]
theorem sc_law_mask_by : FnScope N_law_mask_by P_law_mask_by (defScope s_law_mask_by) := ⟨rfl, rfl, rfl, by decide +kernel, rfl, by decide +kernel, by decide +kernel⟩
noncomputable def b_law_mask_by : MS :=
  (sSeq (sSet 3 (mBin fMul (mLst (mCons (mC (.int 0)) mNil)) (mVar 2))) (sSeq (sFor (miA (mVar 0)) (gT (gC (gN 4) (gC (gN 5) gE))) (sPut (mVar 3) (mVar 5) (mBin fAdd (mBin fIx (mVar 3) (mVar 5)) (mCall m_law_power [] (mCons (mVar 4) mNil))))) (sRet (mTup (mCons (mVar 1) (mCons (mBi fTuple (mConsT (mVar 3) mNilT)) mNil))))))
noncomputable def m_law_mask_by : List W → GH → R W := mDef 6 b_law_mask_by
theorem ok_law_mask_by {f : Addr} {fd : FuncData} {dvs : List V} (F : FunD K "_law_mask_by" "_law_mask_by" (defArgs s_law_mask_by) (defBody s_law_mask_by) (defScope s_law_mask_by) dvs [] f fd) (T : Tx K mg ca) (C_law_power : Callable P w K mg base ca 1 "_law_power" P_law_power [] m_law_power) : FnOk P w K mg base (L2N.CX P w) 2 f fd P_law_mask_by (spM K ca 3 m_law_mask_by) := by
  refine def_okD (N := N_law_mask_by) F sc_law_mask_by fun cdv A outer s H E hr => ?_
  have hu := hr.units
  have hu5 := hu_five hr
  have tk : L2N.Takes (cxOf (L2N.CX P w) P w K mg base N_law_mask_by "_law_mask_by" (defScope s_law_mask_by) f cdv A outer s H E) (fun c d _ H => E c d H) := L2N.takes_of rfl rfl rfl rfl
  exact (b_cons (s_set (i := 3) sc_law_mask_by.nd rfl (.inl rfl) (s_bin op_mulA says_mul (s_lst (a_cons s_int a_nil)) (s_var (i := 2) rfl (.inl rfl)))) (b_cons (s_for (passes_of rfl) rfl (i_any (s_var (i := 0) rfl (.inl rfl))) (g_tup rfl (g_cons (g_name (i := 4) sc_law_mask_by.nd rfl (.inl rfl)) (g_cons (g_name (i := 5) sc_law_mask_by.nd rfl (.inl rfl)) g_nil)) (gl_cons (gl_cons gl_nil))) (b_one (s_put (s_var (i := 3) rfl (.inl rfl)) (s_var (i := 5) rfl (.inl rfl)) (s_bin op_addA says_add (s_ix (s_var (i := 3) rfl (.inl rfl)) (s_var (i := 5) rfl (.inl rfl))) (s_call C_law_power (hr.mono (by decide)) (by rfl) tk (a_cons (s_var (i := 4) rfl (.inl rfl)) a_nil) (len_dws (len_cons len_nil) rfl)))))) (b_one (s_ret (s_tup (a_cons (s_var (i := 1) rfl (.inl rfl)) (a_cons (s_bty call_tuple_of says_tuple (by rfl) T.n_tuple bt_tuple (c_cons (s_var (i := 3) rfl (.inl rfl)) c_nil)) a_nil)))))))
abbrev s_law_same_mask : Stmt := topS 44
abbrev N_law_same_mask : List Str := ["_law_found", "_law_due", "_law_row"]
abbrev P_law_same_mask : List Str := ["_law_found", "_law_due"]
theorem sc_law_same_mask : FnScope N_law_same_mask P_law_same_mask (defScope s_law_same_mask) := ⟨rfl, rfl, rfl, by decide +kernel, rfl, by decide +kernel, by decide +kernel⟩
noncomputable def b_law_same_mask : MS :=
  (sSeq (sIf (mOr (mNot (mTru (mBi fIsi (mConsT (mVar 0) (mConsT (mC (.ty "tuple")) mNilT))))) (mOr (mB (mBin fNe (mVar 0) (mVar 1))) (mNot (mTru (mBi fIsi (mConsT (mBin fIx (mVar 0) (mC (.int 1))) (mConsT (mC (.ty "tuple")) mNilT))))))) (sRet (mC (.bl false))) sNext) (sRet (mAndV (mCall m_law_whole [] (mCons (mBin fIx (mVar 0) (mC (.int 0))) mNil)) (mBi fAll (mConsT (mComp (miA (mBin fIx (mVar 0) (mC (.int 1)))) (gN 2) mYes (mCall m_law_whole [] (mCons (mVar 2) mNil)) [2]) mNilT)))))
noncomputable def m_law_same_mask : List W → GH → R W := mDef 3 b_law_same_mask
theorem ok_law_same_mask {f : Addr} {fd : FuncData} {dvs : List V} (F : FunD K "_law_same_mask" "_law_same_mask" (defArgs s_law_same_mask) (defBody s_law_same_mask) (defScope s_law_same_mask) dvs [] f fd) (T : Tx K mg ca) (C_law_whole : Callable P w K mg base ca 1 "_law_whole" P_law_whole [] m_law_whole) : FnOk P w K mg base (L2N.CX P w) 2 f fd P_law_same_mask (spM K ca 2 m_law_same_mask) := by
  refine def_okD (N := N_law_same_mask) F sc_law_same_mask fun cdv A outer s H E hr => ?_
  have hu := hr.units
  have hu5 := hu_five hr
  have tk : L2N.Takes (cxOf (L2N.CX P w) P w K mg base N_law_same_mask "_law_same_mask" (defScope s_law_same_mask) f cdv A outer s H E) (fun c d _ H => E c d H) := L2N.takes_of rfl rfl rfl rfl
  exact (b_cons (s_if (PW.pt (w_or (s_tnot (s_truth (s_bi call_isi says_isi (by rfl) T.n_isinstance bt_isinstance (c_cons (s_var (i := 0) rfl (.inl rfl)) (c_cons (s_ty (by rfl) T.n_tuple bt_tuple) c_nil))))) (w_or (s_testCmp (op_neA hu) says_ne (s_var (i := 0) rfl (.inl rfl)) (s_var (i := 1) rfl (.inl rfl)) (nomark _)) (w_or1 (s_tnot (s_truth (s_bi call_isi says_isi (by rfl) T.n_isinstance bt_isinstance (c_cons (s_ix (s_var (i := 0) rfl (.inl rfl)) s_int) (c_cons (s_ty (by rfl) T.n_tuple bt_tuple) c_nil))))))))) (b_one (s_ret s_bl)) b_nil) (b_one (s_ret (v_and (s_call C_law_whole (hr.mono (by decide)) (by rfl) tk (a_cons (s_ix (s_var (i := 0) rfl (.inl rfl)) s_int) a_nil) (len_dws (len_cons len_nil) rfl)) (v_one (s_bi (cr_all rfl) says_all (by rfl) T.n_all bt_all (c_cons (s_lc (own := [("_law_row", 2)]) rfl sc_law_same_mask.nd (i_any (s_ix (s_var (i := 0) rfl (.inl rfl)) s_int)) (blkOk_by (N := N_law_same_mask) (sc := defScope s_law_same_mask) (by decide +kernel)) (fun _ _ _ _ _ => (pg_name (i := 2) sc_law_same_mask.nd rfl (by first | exact .inl rfl | exact .inr rfl))) tgt_name (own_name (by decide)) (fun _ _ _ _ _ => ts_nil) (fun _ _ _ _ _ => (s_call C_law_whole (hr.mono (by decide)) (by rfl) takesN (a_cons (s_var (i := 2) rfl (by first | exact .inl rfl | exact .inr (.inl rfl))) a_nil) (len_dws (len_cons len_nil) rfl)))) c_nil)))))))
abbrev s_law_same : Stmt := topS 45
abbrev N_law_same : List Str := ["_law_found", "_law_due", "_law_row", "_law_sizes", "_law_size", "_law_cell_here"]
abbrev P_law_same : List Str := ["_law_found", "_law_due"]
theorem sc_law_same : FnScope N_law_same P_law_same (defScope s_law_same) := ⟨rfl, rfl, rfl, by decide +kernel, rfl, by decide +kernel, by decide +kernel⟩
noncomputable def b_law_same : MS :=
  (sSeq (sIf (mOr (mNot (mTru (mBi fIsi (mConsT (mVar 0) (mConsT (mC (.ty "list")) mNilT))))) (mB (mBin fNe (mVar 0) (mVar 1)))) (sRet (mC (.bl false))) sNext) (sSeq (sFor (miA (mVar 0)) (gN 2) (sIf (mOr (mNot (mTru (mBi fIsi (mConsT (mVar 2) (mConsT (mC (.ty "list")) mNilT))))) (mNot (mTru (mBi fAll (mConsT (mComp (miA (mVar 2)) (gN 5) mYes (mCall m_law_whole [] (mCons (mVar 5) mNil)) [5]) mNilT))))) (sRet (mC (.bl false))) sNext)) (sSeq (sSet 3 (mComp (miA (mVar 0)) (gN 2) mYes (mBi fLen (mConsT (mVar 2) mNilT)) [2])) (sSeq (sFor (miA (mVar 0)) (gN 2) (sDrop (mMtF isLst fApp (mVar 2) (mCons (mC (.int 0)) mNil)))) (sRet (mBin fEq (mComp (miA (mVar 0)) (gN 2) mYes (mBi fLen (mConsT (mVar 2) mNilT)) [2]) (mComp (miA (mVar 3)) (gN 4) mYes (mBin fAdd (mVar 4) (mC (.int 1))) [4])))))))
noncomputable def m_law_same : List W → GH → R W := mDef 6 b_law_same
theorem ok_law_same {f : Addr} {fd : FuncData} {dvs : List V} (F : FunD K "_law_same" "_law_same" (defArgs s_law_same) (defBody s_law_same) (defScope s_law_same) dvs [] f fd) (T : Tx K mg ca) (C_law_whole : Callable P w K mg base ca 1 "_law_whole" P_law_whole [] m_law_whole) : FnOk P w K mg base (L2N.CX P w) 2 f fd P_law_same (spM K ca 2 m_law_same) := by
  refine def_okD (N := N_law_same) F sc_law_same fun cdv A outer s H E hr => ?_
  have hu := hr.units
  have hu5 := hu_five hr
  have tk : L2N.Takes (cxOf (L2N.CX P w) P w K mg base N_law_same "_law_same" (defScope s_law_same) f cdv A outer s H E) (fun c d _ H => E c d H) := L2N.takes_of rfl rfl rfl rfl
  exact (b_cons (s_if (PW.pt (w_or (s_tnot (s_truth (s_bi call_isi says_isi (by rfl) T.n_isinstance bt_isinstance (c_cons (s_var (i := 0) rfl (.inl rfl)) (c_cons (s_ty (by rfl) T.n_list bt_list) c_nil))))) (w_or1 (s_testCmp (op_neA hu) says_ne (s_var (i := 0) rfl (.inl rfl)) (s_var (i := 1) rfl (.inl rfl)) (nomark _))))) (b_one (s_ret s_bl)) b_nil) (b_cons (s_for (passes_of rfl) rfl (i_any (s_var (i := 0) rfl (.inl rfl))) (g_name (i := 2) sc_law_same.nd rfl (.inl rfl)) (b_one (s_if (PW.pt (w_or (s_tnot (s_truth (s_bi call_isi says_isi (by rfl) T.n_isinstance bt_isinstance (c_cons (s_var (i := 2) rfl (.inl rfl)) (c_cons (s_ty (by rfl) T.n_list bt_list) c_nil))))) (w_or1 (s_tnot (s_truth (s_bi (cr_all rfl) says_all (by rfl) T.n_all bt_all (c_cons (s_lc (own := [("_law_cell_here", 5)]) rfl sc_law_same.nd (i_any (s_var (i := 2) rfl (.inl rfl))) (blkOk_by (N := N_law_same) (sc := defScope s_law_same) (by decide +kernel)) (fun _ _ _ _ _ => (pg_name (i := 5) sc_law_same.nd rfl (by first | exact .inl rfl | exact .inr rfl))) tgt_name (own_name (by decide)) (fun _ _ _ _ _ => ts_nil) (fun _ _ _ _ _ => (s_call C_law_whole (hr.mono (by decide)) (by rfl) takesN (a_cons (s_var (i := 5) rfl (by first | exact .inl rfl | exact .inr (.inl rfl))) a_nil) (len_dws (len_cons len_nil) rfl)))) c_nil))))))) (b_one (s_ret s_bl)) b_nil))) (b_cons (s_setLc (i := 3) (own := [("_law_row", 2)]) rfl sc_law_same.nd rfl rfl (sw_true rfl rfl rfl (by decide +kernel)) (i_any (s_var (i := 0) rfl (.inl rfl))) (blkOk_by (N := N_law_same) (sc := defScope s_law_same) (by decide +kernel)) (fun _ _ _ _ _ => (pg_name (i := 2) sc_law_same.nd rfl (by first | exact .inl rfl | exact .inr rfl))) tgt_name (own_name (by decide)) (fun _ _ _ _ _ => ts_nil) (fun _ _ _ _ _ => (s_bi call_len says_len (by rfl) T.n_len bt_len (c_cons (s_var (i := 2) rfl (by first | exact .inl rfl | exact .inr (.inl rfl))) c_nil)))) (b_cons (s_for (passes_of rfl) rfl (i_any (s_var (i := 0) rfl (.inl rfl))) (g_name (i := 2) sc_law_same.nd rfl (.inl rfl)) (b_one (s_expr (s_mtF PySem.F.plainAttrs_list PySem.F.slot_list_append PySem.F.type_list_append mt_append says_app ty_list (s_var (i := 2) rfl (.inl rfl)) (a_cons s_int a_nil))))) (b_one (s_ret (s_cmp (op_eqA hu) says_eq (s_lc (own := [("_law_row", 2)]) rfl sc_law_same.nd (i_any (s_var (i := 0) rfl (.inl rfl))) (blkOk_by (N := N_law_same) (sc := defScope s_law_same) (by decide +kernel)) (fun _ _ _ _ _ => (pg_name (i := 2) sc_law_same.nd rfl (by first | exact .inl rfl | exact .inr rfl))) tgt_name (own_name (by decide)) (fun _ _ _ _ _ => ts_nil) (fun _ _ _ _ _ => (s_bi call_len says_len (by rfl) T.n_len bt_len (c_cons (s_var (i := 2) rfl (by first | exact .inl rfl | exact .inr (.inl rfl))) c_nil)))) (s_lc (own := [("_law_size", 4)]) rfl sc_law_same.nd (i_any (s_var (i := 3) rfl (.inl rfl))) (blkOk_by (N := N_law_same) (sc := defScope s_law_same) (by decide +kernel)) (fun _ _ _ _ _ => (pg_name (i := 4) sc_law_same.nd rfl (by first | exact .inl rfl | exact .inr rfl))) tgt_name (own_name (by decide)) (fun _ _ _ _ _ => ts_nil) (fun _ _ _ _ _ => (s_bin op_addA says_add (s_var (i := 4) rfl (by first | exact .inl rfl | exact .inr (.inl rfl))) s_int))) (nomark _))))))))
abbrev s_law_class : Stmt := topS 46
abbrev N_law_class : List Str := ["_law_error", "_law_words"]
abbrev P_law_class : List Str := ["_law_error"]
theorem sc_law_class : FnScope N_law_class P_law_class (defScope s_law_class) := ⟨rfl, rfl, rfl, by decide +kernel, rfl, by decide +kernel, by decide +kernel⟩
noncomputable def b_law_class (c : Nat) (a : Addr) : MS :=
  (sSeq (sSet 1 (mBin fMul (mC (.str "value ")) (mBi fInt (mConsT (mBi (fIsE it c a) (mConsT (mVar 0) (mConsT (mC (.ty "ValueError")) mNilT))) mNilT)))) (sSeq (sSet 1 (mBin fAdd (mBin fAdd (mVar 1) (mBin fMul (mC (.str "picture")) (mBi fInt (mConsT (mBi (fIsE it c a) (mConsT (mVar 0) (mConsT (mC (.cls 1)) mNilT))) mNilT)))) (mBin fMul (mC (.str "cell")) (mBi fInt (mConsT (mBi (fIsE it c a) (mConsT (mVar 0) (mConsT (mC (.cls 2)) mNilT))) mNilT))))) (sSeq (sSet 1 (mBin fAdd (mBin fAdd (mVar 1) (mBin fMul (mC (.str "size")) (mBi fInt (mConsT (mBi (fIsE it c a) (mConsT (mVar 0) (mConsT (mC (.cls 3)) mNilT))) mNilT)))) (mBin fMul (mC (.str "mask")) (mBi fInt (mConsT (mBi (fIsE it c a) (mConsT (mVar 0) (mConsT (mC (.cls 5)) mNilT))) mNilT))))) (sSeq (sSet 1 (mBin fAdd (mBin fAdd (mVar 1) (mBin fMul (mC (.str "place")) (mBi fInt (mConsT (mBi (fIsE it c a) (mConsT (mVar 0) (mConsT (mC (.cls 4)) mNilT))) mNilT)))) (mBin fMul (mC (.str "edge")) (mBi fInt (mConsT (mBi (fIsE it c a) (mConsT (mVar 0) (mConsT (mC (.cls 7)) mNilT))) mNilT))))) (sRet (mBin fAdd (mVar 1) (mBin fMul (mC (.str "rule")) (mBi fInt (mConsT (mBi (fIsE it c a) (mConsT (mVar 0) (mConsT (mC (.cls 6)) mNilT))) mNilT)))))))))
noncomputable def m_law_class (c : Nat) (a : Addr) : List W → GH → R W := mDef 2 (b_law_class c a)
theorem ok_law_class {f : Addr} {fd : FuncData} (F : FunD K "_law_class" "_law_class" (defArgs s_law_class) (defBody s_law_class) (defScope s_law_class) [] [] f fd) (T : Tx K mg ca) : FnX P w K mg base ca 1 f fd P_law_class (fun c a => spM K ca 1 (m_law_class c a)) := by
  refine def_okX (N := N_law_class) (mb := b_law_class) F sc_law_class fun cdv A outer s H E p c hr hx => ?_
  have hu5 := hu_hot hr
  have hu := Nat.lt_of_le_of_lt (Nat.add_le_add_left (show 64 ≤ 65 by decide) _) hu5
  show PSs _ _ (tS _ _ _ (b_law_class c p.1))
  generalize p.1 = a at hx ⊢
  exact (b_cons (s_set (i := 1) sc_law_class.nd rfl (.inl rfl) (s_bin op_mulA says_mul s_str (s_bty call_int1 says_int (by rfl) T.n_int bt_int (c_cons (s_bi (call_isX' hx) (says_isE T.E) (by rfl) T.n_isinstance bt_isinstance (c_cons (s_var (i := 0) rfl (.inl rfl)) (c_cons (s_ty (by rfl) T.n_ValueError bt_ValueError) c_nil))) c_nil)))) (b_cons (s_set (i := 1) sc_law_class.nd rfl (.inl rfl) (s_bin op_addA says_add (s_bin op_addA says_add (s_var (i := 1) rfl (.inl rfl)) (s_bin op_mulA says_mul s_str (s_bty call_int1 says_int (by rfl) T.n_int bt_int (c_cons (s_bi (call_isX' hx) (says_isE T.E) (by rfl) T.n_isinstance bt_isinstance (c_cons (s_var (i := 0) rfl (.inl rfl)) (c_cons (s_glob (by rfl) (konW_cls T.g_BadPicture)) c_nil))) c_nil)))) (s_bin op_mulA says_mul s_str (s_bty call_int1 says_int (by rfl) T.n_int bt_int (c_cons (s_bi (call_isX' hx) (says_isE T.E) (by rfl) T.n_isinstance bt_isinstance (c_cons (s_var (i := 0) rfl (.inl rfl)) (c_cons (s_glob (by rfl) (konW_cls T.g_BadCell)) c_nil))) c_nil))))) (b_cons (s_set (i := 1) sc_law_class.nd rfl (.inl rfl) (s_bin op_addA says_add (s_bin op_addA says_add (s_var (i := 1) rfl (.inl rfl)) (s_bin op_mulA says_mul s_str (s_bty call_int1 says_int (by rfl) T.n_int bt_int (c_cons (s_bi (call_isX' hx) (says_isE T.E) (by rfl) T.n_isinstance bt_isinstance (c_cons (s_var (i := 0) rfl (.inl rfl)) (c_cons (s_glob (by rfl) (konW_cls T.g_BadSize)) c_nil))) c_nil)))) (s_bin op_mulA says_mul s_str (s_bty call_int1 says_int (by rfl) T.n_int bt_int (c_cons (s_bi (call_isX' hx) (says_isE T.E) (by rfl) T.n_isinstance bt_isinstance (c_cons (s_var (i := 0) rfl (.inl rfl)) (c_cons (s_glob (by rfl) (konW_cls T.g_BadMask)) c_nil))) c_nil))))) (b_cons (s_set (i := 1) sc_law_class.nd rfl (.inl rfl) (s_bin op_addA says_add (s_bin op_addA says_add (s_var (i := 1) rfl (.inl rfl)) (s_bin op_mulA says_mul s_str (s_bty call_int1 says_int (by rfl) T.n_int bt_int (c_cons (s_bi (call_isX' hx) (says_isE T.E) (by rfl) T.n_isinstance bt_isinstance (c_cons (s_var (i := 0) rfl (.inl rfl)) (c_cons (s_glob (by rfl) (konW_cls T.g_OutOfPlace)) c_nil))) c_nil)))) (s_bin op_mulA says_mul s_str (s_bty call_int1 says_int (by rfl) T.n_int bt_int (c_cons (s_bi (call_isX' hx) (says_isE T.E) (by rfl) T.n_isinstance bt_isinstance (c_cons (s_var (i := 0) rfl (.inl rfl)) (c_cons (s_glob (by rfl) (konW_cls T.g_BadEdge)) c_nil))) c_nil))))) (b_one (s_ret (s_bin op_addA says_add (s_var (i := 1) rfl (.inl rfl)) (s_bin op_mulA says_mul s_str (s_bty call_int1 says_int (by rfl) T.n_int bt_int (c_cons (s_bi (call_isX' hx) (says_isE T.E) (by rfl) T.n_isinstance bt_isinstance (c_cons (s_var (i := 0) rfl (.inl rfl)) (c_cons (s_glob (by rfl) (konW_cls T.g_BadRule)) c_nil))) c_nil))))))))))
abbrev s_law_wrong_picture : Stmt := topS 47
abbrev N_law_wrong_picture : List Str := ["_law_number", "_law_picture_here", "_law_odd", "_law_row", "_law_rows", "_law_spoilt", "_law_which", "_law_x", "_law_y"]
abbrev P_law_wrong_picture : List Str := ["_law_number", "_law_picture_here"]
theorem sc_law_wrong_picture : FnScope N_law_wrong_picture P_law_wrong_picture (defScope s_law_wrong_picture) := ⟨rfl, rfl, rfl, by decide +kernel, rfl, by decide +kernel, by decide +kernel⟩
noncomputable def b_law_wrong_picture : MS :=
  (sSeq (sSet 8 (mBin fMod (mBin fFdiv (mVar 0) (mC (.int 12))) (mBi fLen (mConsT (mVar 1) mNilT)))) (sSeq (sSet 7 (mBin fMod (mBin fFdiv (mVar 0) (mC (.int 300))) (mBi fLen (mConsT (mBin fIx (mVar 1) (mC (.int 0))) mNilT)))) (sSeq (sSet 2 (mBin fIx (mLst (mCons (mC (.int 16)) (mCons (mUn fNeg (mC (.int 1))) (mCons (mC (.bl true)) (mCons (mC .non) (mCons (mC (.str "0")) (mCons (mLst (mCons (mC (.int 0)) mNil)) (mCons (mBin fPow (mC (.int 10)) (mC (.int 20))) (mCons (mC (.bl false)) mNil))))))))) (mBin fMod (mBin fFdiv (mVar 0) (mC (.int 7200))) (mC (.int 8))))) (sSeq (sSet 3 (mBin fIx (mVar 1) (mVar 8))) (sSeq (sSet 4 (mLst (mCons (mBin fAdd (mBin fAdd (mSl (mVar 3) mNoP (mP (mVar 7))) (mLst (mCons (mVar 2) mNil))) (mSl (mVar 3) (mP (mBin fAdd (mVar 7) (mC (.int 1)))) mNoP)) (mCons (mBin fAdd (mVar 3) (mLst (mCons (mC (.int 0)) mNil))) (mCons (mBi fTuple (mConsT (mVar 3) mNilT)) (mCons (mC .non) (mCons (mBin fMul (mC (.str "0")) (mBi fLen (mConsT (mVar 3) mNilT))) (mCons (mLst mNil) (mCons (mSl (mVar 3) mNoP (mP (mVar 7))) mNil))))))))) (sSeq (sSet 6 (mBin fMod (mVar 0) (mC (.int 12)))) (sSeq (sIf (mOr (mB (mBin fLt (mVar 6) (mC (.int 6)))) (mAnd (mB (mBin fEq (mBi fLen (mConsT (mVar 1) mNilT)) (mC (.int 1)))) (mB (mBin fIn (mVar 6) (mTup (mCons (mC (.int 7)) (mCons (mC (.int 11)) mNil))))))) (sSet 4 (mSl (mVar 4) mNoP (mP (mC (.int 1))))) sNext) (sSeq (sIf (mB (mBin fEq (mVar 6) (mC (.int 8)))) (sRet (mBin fIx (mLst (mCons (mC .non) (mCons (mLst mNil) (mCons (mC (.str "0")) (mCons (mC (.int 5)) (mCons mDict0 (mCons (mTup mNil) (mCons (mBi fTuple (mConsT (mVar 1) mNilT)) mNil)))))))) (mBin fMod (mBin fFdiv (mVar 0) (mC (.int 7200))) (mC (.int 7))))) sNext) (sSeq (sIf (mB (mBin fEq (mVar 6) (mC (.int 9)))) (sRet (mSl (mBin fMul (mVar 1) (mC (.int 25))) mNoP (mP (mC (.int 25))))) sNext) (sSeq (sIf (mB (mBin fEq (mVar 6) (mC (.int 10)))) (sRet (mComp (miA (mVar 1)) (gN 3) mYes (mBin fMul (mLst (mCons (mC (.int 0)) mNil)) (mC (.int 25))) [3])) sNext) (sSeq (sSet 5 (mBin fIx (mVar 4) (mBi fMin (mConsT (mBin fSub (mBi fLen (mConsT (mVar 4) mNilT)) (mC (.int 1))) (mConsT (mBin fIx (mLst (mCons (mC (.int 0)) (mCons (mC (.int 0)) (mCons (mC (.int 0)) (mCons (mC (.int 0)) (mCons (mC (.int 0)) (mCons (mC (.int 0)) (mCons (mC (.int 2)) (mCons (mC (.int 1)) (mCons (mC (.int 0)) (mCons (mC (.int 0)) (mCons (mC (.int 0)) (mCons (mC (.int 6)) mNil))))))))))))) (mVar 6)) mNilT))))) (sRet (mBin fAdd (mBin fAdd (mSl (mVar 1) mNoP (mP (mVar 8))) (mLst (mCons (mVar 5) mNil))) (mSl (mVar 1) (mP (mBin fAdd (mVar 8) (mC (.int 1)))) mNoP))))))))))))))
noncomputable def m_law_wrong_picture : List W → GH → R W := mDef 9 b_law_wrong_picture
theorem ok_law_wrong_picture {f : Addr} {fd : FuncData} {dvs : List V} (F : FunD K "_law_wrong_picture" "_law_wrong_picture" (defArgs s_law_wrong_picture) (defBody s_law_wrong_picture) (defScope s_law_wrong_picture) dvs [] f fd) (T : Tx K mg ca) : FnOk P w K mg base (L2N.CX P w) 1 f fd P_law_wrong_picture (spM K ca 2 m_law_wrong_picture) := by
  refine def_okD (N := N_law_wrong_picture) F sc_law_wrong_picture fun cdv A outer s H E hr => ?_
  have hu := hr.units
  have hu5 := hu_five hr
  have tk : L2N.Takes (cxOf (L2N.CX P w) P w K mg base N_law_wrong_picture "_law_wrong_picture" (defScope s_law_wrong_picture) f cdv A outer s H E) (fun c d _ H => E c d H) := L2N.takes_of rfl rfl rfl rfl
  exact (b_cons (s_set (i := 8) sc_law_wrong_picture.nd rfl (.inl rfl) (s_bin op_mod says_mod (s_bin op_fdivW says_fdiv (s_var (i := 0) rfl (.inl rfl)) s_int) (s_bi call_len says_len (by rfl) T.n_len bt_len (c_cons (s_var (i := 1) rfl (.inl rfl)) c_nil)))) (b_cons (s_set (i := 7) sc_law_wrong_picture.nd rfl (.inl rfl) (s_bin op_mod says_mod (s_bin op_fdivW says_fdiv (s_var (i := 0) rfl (.inl rfl)) s_int) (s_bi call_len says_len (by rfl) T.n_len bt_len (c_cons (s_ix (s_var (i := 1) rfl (.inl rfl)) s_int) c_nil)))) (b_cons (s_set (i := 2) sc_law_wrong_picture.nd rfl (.inl rfl) (s_ix (s_lst (a_cons s_int (a_cons (s_neg s_int) (a_cons s_bl (a_cons s_non (a_cons s_str (a_cons (s_lst (a_cons s_int a_nil)) (a_cons (s_bin op_pow says_pow s_int s_int) (a_cons s_bl a_nil))))))))) (s_bin op_mod says_mod (s_bin op_fdivW says_fdiv (s_var (i := 0) rfl (.inl rfl)) s_int) s_int))) (b_cons (s_set (i := 3) sc_law_wrong_picture.nd rfl (.inl rfl) (s_ix (s_var (i := 1) rfl (.inl rfl)) (s_var (i := 8) rfl (.inl rfl)))) (b_cons (s_set (i := 4) sc_law_wrong_picture.nd rfl (.inl rfl) (s_lst (a_cons (s_bin op_addA says_add (s_bin op_addA says_add (s_sl (s_var (i := 3) rfl (.inl rfl)) o_none (o_some (s_var (i := 7) rfl (.inl rfl)))) (s_lst (a_cons (s_var (i := 2) rfl (.inl rfl)) a_nil))) (s_sl (s_var (i := 3) rfl (.inl rfl)) (o_some (s_bin op_addA says_add (s_var (i := 7) rfl (.inl rfl)) s_int)) o_none)) (a_cons (s_bin op_addA says_add (s_var (i := 3) rfl (.inl rfl)) (s_lst (a_cons s_int a_nil))) (a_cons (s_bty call_tuple_of says_tuple (by rfl) T.n_tuple bt_tuple (c_cons (s_var (i := 3) rfl (.inl rfl)) c_nil)) (a_cons s_non (a_cons (s_bin op_mulA says_mul s_str (s_bi call_len says_len (by rfl) T.n_len bt_len (c_cons (s_var (i := 3) rfl (.inl rfl)) c_nil))) (a_cons (s_lst a_nil) (a_cons (s_sl (s_var (i := 3) rfl (.inl rfl)) o_none (o_some (s_var (i := 7) rfl (.inl rfl)))) a_nil))))))))) (b_cons (s_set (i := 6) sc_law_wrong_picture.nd rfl (.inl rfl) (s_bin op_mod says_mod (s_var (i := 0) rfl (.inl rfl)) s_int)) (b_cons (s_if (PW.pt (w_or (s_testCmp op_lt says_C (s_var (i := 6) rfl (.inl rfl)) s_int (nomark _)) (w_or1 (PW.pt (w_and (s_testCmp (op_eqA hu) says_eq (s_bi call_len says_len (by rfl) T.n_len bt_len (c_cons (s_var (i := 1) rfl (.inl rfl)) c_nil)) s_int (nomark _)) (w_and1 (s_testCmp (op_inA hu5) says_isin (s_var (i := 6) rfl (.inl rfl)) (s_tup (a_cons s_int (a_cons s_int a_nil))) (by rfl)))))))) (b_one (s_set (i := 4) sc_law_wrong_picture.nd rfl (.inl rfl) (s_sl (s_var (i := 4) rfl (.inl rfl)) o_none (o_some s_int)))) b_nil) (b_cons (s_if (s_testCmp (op_eqA hu) says_eq (s_var (i := 6) rfl (.inl rfl)) s_int (nomark _)) (b_one (s_ret (s_ix (s_lst (a_cons s_non (a_cons (s_lst a_nil) (a_cons s_str (a_cons s_int (a_cons s_dict0 (a_cons (s_tup a_nil) (a_cons (s_bty call_tuple_of says_tuple (by rfl) T.n_tuple bt_tuple (c_cons (s_var (i := 1) rfl (.inl rfl)) c_nil)) a_nil)))))))) (s_bin op_mod says_mod (s_bin op_fdivW says_fdiv (s_var (i := 0) rfl (.inl rfl)) s_int) s_int)))) b_nil) (b_cons (s_if (s_testCmp (op_eqA hu) says_eq (s_var (i := 6) rfl (.inl rfl)) s_int (nomark _)) (b_one (s_ret (s_sl (s_bin op_mulA says_mul (s_var (i := 1) rfl (.inl rfl)) s_int) o_none (o_some s_int)))) b_nil) (b_cons (s_if (s_testCmp (op_eqA hu) says_eq (s_var (i := 6) rfl (.inl rfl)) s_int (nomark _)) (b_one (s_ret (s_lc (own := [("_law_row", 3)]) rfl sc_law_wrong_picture.nd (i_any (s_var (i := 1) rfl (.inl rfl))) (blkOk_by (N := N_law_wrong_picture) (sc := defScope s_law_wrong_picture) (by decide +kernel)) (fun _ _ _ _ _ => (pg_name (i := 3) sc_law_wrong_picture.nd rfl (by first | exact .inl rfl | exact .inr rfl))) tgt_name (own_name (by decide)) (fun _ _ _ _ _ => ts_nil) (fun _ _ _ _ _ => (s_bin op_mulA says_mul (s_lst (a_cons s_int a_nil)) s_int))))) b_nil) (b_cons (s_set (i := 5) sc_law_wrong_picture.nd rfl (.inl rfl) (s_ix (s_var (i := 4) rfl (.inl rfl)) (s_bi (call_min2 rfl) says_min (by rfl) T.n_min bt_min (c_cons (s_bin op_sub says_sub (s_bi call_len says_len (by rfl) T.n_len bt_len (c_cons (s_var (i := 4) rfl (.inl rfl)) c_nil)) s_int) (c_cons (s_ix (s_lst (a_cons s_int (a_cons s_int (a_cons s_int (a_cons s_int (a_cons s_int (a_cons s_int (a_cons s_int (a_cons s_int (a_cons s_int (a_cons s_int (a_cons s_int (a_cons s_int a_nil))))))))))))) (s_var (i := 6) rfl (.inl rfl))) c_nil))))) (b_one (s_ret (s_bin op_addA says_add (s_bin op_addA says_add (s_sl (s_var (i := 1) rfl (.inl rfl)) o_none (o_some (s_var (i := 8) rfl (.inl rfl)))) (s_lst (a_cons (s_var (i := 5) rfl (.inl rfl)) a_nil))) (s_sl (s_var (i := 1) rfl (.inl rfl)) (o_some (s_bin op_addA says_add (s_var (i := 8) rfl (.inl rfl)) s_int)) o_none)))))))))))))))
abbrev s_law_wrong_mask : Stmt := topS 48
abbrev N_law_wrong_mask : List Str := ["_law_number", "_law_mask_here", "_law_full", "_law_odd", "_law_rows", "_law_some_here", "_law_wide", "_law_y"]
abbrev P_law_wrong_mask : List Str := ["_law_number", "_law_mask_here"]
theorem sc_law_wrong_mask : FnScope N_law_wrong_mask P_law_wrong_mask (defScope s_law_wrong_mask) := ⟨rfl, rfl, rfl, by decide +kernel, rfl, by decide +kernel, by decide +kernel⟩
noncomputable def b_law_wrong_mask : MS :=
  (sSeq (sAsg (gT (gC (gN 6) (gC (gN 4) gE))) (mVar 1)) (sSeq (sSet 7 (mBin fMod (mBin fFdiv (mVar 0) (mC (.int 20))) (mBi fLen (mConsT (mVar 4) mNilT)))) (sSeq (sSet 2 (mCall m_law_power [] (mCons (mVar 6) mNil))) (sSeq (sSet 3 (mBin fIx (mLst (mCons (mVar 2) (mCons (mUn fNeg (mC (.int 1))) (mCons (mC (.bl true)) (mCons (mC .non) (mCons (mC (.str "0")) (mCons (mTup (mCons (mC (.int 0)) mNil)) (mCons (mBin fPow (mC (.int 10)) (mC (.int 30))) (mCons (mC (.bl false)) mNil))))))))) (mBin fMod (mBin fFdiv (mVar 0) (mC (.int 500))) (mC (.int 8))))) (sSeq (sSet 5 (mLst (mCons (mTup (mCons (mVar 6) (mCons (mBin fAdd (mBin fAdd (mSl (mVar 4) mNoP (mP (mVar 7))) (mTup (mCons (mVar 3) mNil))) (mSl (mVar 4) (mP (mBin fAdd (mVar 7) (mC (.int 1)))) mNoP)) mNil))) (mCons (mTup (mCons (mVar 6) (mCons (mBi fList (mConsT (mVar 4) mNilT)) mNil))) (mCons (mLst (mCons (mVar 6) (mCons (mVar 4) mNil))) (mCons (mTup (mCons (mVar 6) mNil)) (mCons (mTup (mCons (mVar 6) (mCons (mVar 4) (mCons (mC (.int 0)) mNil)))) mNil))))))) (sSeq (sSet 5 (mBin fAdd (mVar 5) (mLst (mCons (mTup (mCons (mC (.int 0)) (mCons (mVar 4) mNil))) (mCons (mTup (mCons (mC (.int 25)) (mCons (mVar 4) mNil))) (mCons (mTup (mCons (mC (.bl true)) (mCons (mTup (mCons (mC (.int 0)) mNil)) mNil))) (mCons (mTup (mCons (mC .non) (mCons (mVar 4) mNil))) (mCons (mTup (mCons (mVar 6) (mCons (mTup mNil) mNil))) (mCons (mTup (mCons (mVar 6) (mCons (mBin fMul (mTup (mCons (mC (.int 0)) mNil)) (mC (.int 25))) mNil))) mNil))))))))) (sSeq (sSet 5 (mBin fAdd (mVar 5) (mLst (mCons (mTup (mCons (mBi fStr (mConsT (mVar 6) mNilT)) (mCons (mVar 4) mNil))) (mCons (mC .non) (mCons (mTup mNil) (mCons (mC (.int 5)) (mCons (mC (.str "mask")) (mCons mDict0 (mCons (mBin fIx (mVar 5) (mC (.int 0))) (mCons (mBin fIx (mVar 5) (mC (.int 0))) (mCons (mBin fIx (mVar 5) (mC (.int 0))) mNil)))))))))))) (sRet (mBin fIx (mVar 5) (mBin fMod (mVar 0) (mC (.int 20))))))))))))
noncomputable def m_law_wrong_mask : List W → GH → R W := mDef 8 b_law_wrong_mask
theorem ok_law_wrong_mask {f : Addr} {fd : FuncData} {dvs : List V} (F : FunD K "_law_wrong_mask" "_law_wrong_mask" (defArgs s_law_wrong_mask) (defBody s_law_wrong_mask) (defScope s_law_wrong_mask) dvs [] f fd) (T : Tx K mg ca) (C_law_power : Callable P w K mg base ca 1 "_law_power" P_law_power [] m_law_power) : FnOk P w K mg base (L2N.CX P w) 2 f fd P_law_wrong_mask (spM K ca 2 m_law_wrong_mask) := by
  refine def_okD (N := N_law_wrong_mask) F sc_law_wrong_mask fun cdv A outer s H E hr => ?_
  have hu := hr.units
  have hu5 := hu_five hr
  have tk : L2N.Takes (cxOf (L2N.CX P w) P w K mg base N_law_wrong_mask "_law_wrong_mask" (defScope s_law_wrong_mask) f cdv A outer s H E) (fun c d _ H => E c d H) := L2N.takes_of rfl rfl rfl rfl
  exact (b_cons (s_asg (s_var (i := 1) rfl (.inl rfl)) (g_tup rfl (g_cons (g_name (i := 6) sc_law_wrong_mask.nd rfl (.inl rfl)) (g_cons (g_name (i := 4) sc_law_wrong_mask.nd rfl (.inl rfl)) g_nil)) (gl_cons (gl_cons gl_nil)))) (b_cons (s_set (i := 7) sc_law_wrong_mask.nd rfl (.inl rfl) (s_bin op_mod says_mod (s_bin op_fdivW says_fdiv (s_var (i := 0) rfl (.inl rfl)) s_int) (s_bi call_len says_len (by rfl) T.n_len bt_len (c_cons (s_var (i := 4) rfl (.inl rfl)) c_nil)))) (b_cons (s_set (i := 2) sc_law_wrong_mask.nd rfl (.inl rfl) (s_call C_law_power (hr.mono (by decide)) (by rfl) tk (a_cons (s_var (i := 6) rfl (.inl rfl)) a_nil) (len_dws (len_cons len_nil) rfl))) (b_cons (s_set (i := 3) sc_law_wrong_mask.nd rfl (.inl rfl) (s_ix (s_lst (a_cons (s_var (i := 2) rfl (.inl rfl)) (a_cons (s_neg s_int) (a_cons s_bl (a_cons s_non (a_cons s_str (a_cons (s_tup (a_cons s_int a_nil)) (a_cons (s_bin op_pow says_pow s_int s_int) (a_cons s_bl a_nil))))))))) (s_bin op_mod says_mod (s_bin op_fdivW says_fdiv (s_var (i := 0) rfl (.inl rfl)) s_int) s_int))) (b_cons (s_set (i := 5) sc_law_wrong_mask.nd rfl (.inl rfl) (s_lst (a_cons (s_tup (a_cons (s_var (i := 6) rfl (.inl rfl)) (a_cons (s_bin op_addA says_add (s_bin op_addA says_add (s_sl (s_var (i := 4) rfl (.inl rfl)) o_none (o_some (s_var (i := 7) rfl (.inl rfl)))) (s_tup (a_cons (s_var (i := 3) rfl (.inl rfl)) a_nil))) (s_sl (s_var (i := 4) rfl (.inl rfl)) (o_some (s_bin op_addA says_add (s_var (i := 7) rfl (.inl rfl)) s_int)) o_none)) a_nil))) (a_cons (s_tup (a_cons (s_var (i := 6) rfl (.inl rfl)) (a_cons (s_bty call_list_of says_list (by rfl) T.n_list bt_list (c_cons (s_var (i := 4) rfl (.inl rfl)) c_nil)) a_nil))) (a_cons (s_lst (a_cons (s_var (i := 6) rfl (.inl rfl)) (a_cons (s_var (i := 4) rfl (.inl rfl)) a_nil))) (a_cons (s_tup (a_cons (s_var (i := 6) rfl (.inl rfl)) a_nil)) (a_cons (s_tup (a_cons (s_var (i := 6) rfl (.inl rfl)) (a_cons (s_var (i := 4) rfl (.inl rfl)) (a_cons s_int a_nil)))) a_nil))))))) (b_cons (s_set (i := 5) sc_law_wrong_mask.nd rfl (.inl rfl) (s_bin op_addA says_add (s_var (i := 5) rfl (.inl rfl)) (s_lst (a_cons (s_tup (a_cons s_int (a_cons (s_var (i := 4) rfl (.inl rfl)) a_nil))) (a_cons (s_tup (a_cons s_int (a_cons (s_var (i := 4) rfl (.inl rfl)) a_nil))) (a_cons (s_tup (a_cons s_bl (a_cons (s_tup (a_cons s_int a_nil)) a_nil))) (a_cons (s_tup (a_cons s_non (a_cons (s_var (i := 4) rfl (.inl rfl)) a_nil))) (a_cons (s_tup (a_cons (s_var (i := 6) rfl (.inl rfl)) (a_cons (s_tup a_nil) a_nil))) (a_cons (s_tup (a_cons (s_var (i := 6) rfl (.inl rfl)) (a_cons (s_bin op_mulA says_mul (s_tup (a_cons s_int a_nil)) s_int) a_nil))) a_nil))))))))) (b_cons (s_set (i := 5) sc_law_wrong_mask.nd rfl (.inl rfl) (s_bin op_addA says_add (s_var (i := 5) rfl (.inl rfl)) (s_lst (a_cons (s_tup (a_cons (s_bty call_str_int says_strI (by rfl) T.n_str bt_str (c_cons (s_var (i := 6) rfl (.inl rfl)) c_nil)) (a_cons (s_var (i := 4) rfl (.inl rfl)) a_nil))) (a_cons s_non (a_cons (s_tup a_nil) (a_cons s_int (a_cons s_str (a_cons s_dict0 (a_cons (s_ix (s_var (i := 5) rfl (.inl rfl)) s_int) (a_cons (s_ix (s_var (i := 5) rfl (.inl rfl)) s_int) (a_cons (s_ix (s_var (i := 5) rfl (.inl rfl)) s_int) a_nil)))))))))))) (b_one (s_ret (s_ix (s_var (i := 5) rfl (.inl rfl)) (s_bin op_mod says_mod (s_var (i := 0) rfl (.inl rfl)) s_int)))))))))))
abbrev s_law_wrong_cell : Stmt := topS 49
abbrev N_law_wrong_cell : List Str := ["_law_number"]
abbrev P_law_wrong_cell : List Str := ["_law_number"]
theorem sc_law_wrong_cell : FnScope N_law_wrong_cell P_law_wrong_cell (defScope s_law_wrong_cell) := ⟨rfl, rfl, rfl, by decide +kernel, rfl, by decide +kernel, by decide +kernel⟩
noncomputable def b_law_wrong_cell : MS :=
  (sRet (mBin fIx (mLst (mCons (mC (.int 16)) (mCons (mUn fNeg (mC (.int 1))) (mCons (mC (.bl true)) (mCons (mC .non) (mCons (mC (.str "0")) (mCons (mLst (mCons (mC (.int 0)) mNil)) (mCons (mBin fPow (mC (.int 10)) (mC (.int 20))) (mCons (mC (.bl false)) (mCons (mTup (mCons (mC (.int 0)) mNil)) mNil)))))))))) (mBin fMod (mVar 0) (mC (.int 9)))))
noncomputable def m_law_wrong_cell : List W → GH → R W := mDef 1 b_law_wrong_cell
theorem ok_law_wrong_cell {f : Addr} {fd : FuncData} {dvs : List V} (F : FunD K "_law_wrong_cell" "_law_wrong_cell" (defArgs s_law_wrong_cell) (defBody s_law_wrong_cell) (defScope s_law_wrong_cell) dvs [] f fd) (T : Tx K mg ca) : FnOk P w K mg base (L2N.CX P w) 1 f fd P_law_wrong_cell (spM K ca 1 m_law_wrong_cell) := by
  refine def_okD (N := N_law_wrong_cell) F sc_law_wrong_cell fun cdv A outer s H E hr => ?_
  have hu := hr.units
  have hu5 := hu_five hr
  have tk : L2N.Takes (cxOf (L2N.CX P w) P w K mg base N_law_wrong_cell "_law_wrong_cell" (defScope s_law_wrong_cell) f cdv A outer s H E) (fun c d _ H => E c d H) := L2N.takes_of rfl rfl rfl rfl
  exact (b_one (s_ret (s_ix (s_lst (a_cons s_int (a_cons (s_neg s_int) (a_cons s_bl (a_cons s_non (a_cons s_str (a_cons (s_lst (a_cons s_int a_nil)) (a_cons (s_bin op_pow says_pow s_int s_int) (a_cons s_bl (a_cons (s_tup (a_cons s_int a_nil)) a_nil)))))))))) (s_bin op_mod says_mod (s_var (i := 0) rfl (.inl rfl)) s_int))))
abbrev s_law_copied : Stmt := topS 50
abbrev N_law_copied : List Str := ["_law_picture_here", "_law_row"]
abbrev P_law_copied : List Str := ["_law_picture_here"]
theorem sc_law_copied : FnScope N_law_copied P_law_copied (defScope s_law_copied) := ⟨rfl, rfl, rfl, by decide +kernel, rfl, by decide +kernel, by decide +kernel⟩
noncomputable def b_law_copied : MS :=
  (sRet (mComp (miA (mVar 0)) (gN 1) mYes (mBi fList (mConsT (mVar 1) mNilT)) [1]))
noncomputable def m_law_copied : List W → GH → R W := mDef 2 b_law_copied
theorem ok_law_copied {f : Addr} {fd : FuncData} {dvs : List V} (F : FunD K "_law_copied" "_law_copied" (defArgs s_law_copied) (defBody s_law_copied) (defScope s_law_copied) dvs [] f fd) (T : Tx K mg ca) : FnOk P w K mg base (L2N.CX P w) 1 f fd P_law_copied (spM K ca 1 m_law_copied) := by
  refine def_okD (N := N_law_copied) F sc_law_copied fun cdv A outer s H E hr => ?_
  have hu := hr.units
  have hu5 := hu_five hr
  have tk : L2N.Takes (cxOf (L2N.CX P w) P w K mg base N_law_copied "_law_copied" (defScope s_law_copied) f cdv A outer s H E) (fun c d _ H => E c d H) := L2N.takes_of rfl rfl rfl rfl
  exact (b_one (s_ret (s_lc (own := [("_law_row", 1)]) rfl sc_law_copied.nd (i_any (s_var (i := 0) rfl (.inl rfl))) (blkOk_by (N := N_law_copied) (sc := defScope s_law_copied) (by decide +kernel)) (fun _ _ _ _ _ => (pg_name (i := 1) sc_law_copied.nd rfl (by first | exact .inl rfl | exact .inr rfl))) tgt_name (own_name (by decide)) (fun _ _ _ _ _ => ts_nil) (fun _ _ _ _ _ => (s_bty call_list_of says_list (by rfl) T.n_list bt_list (c_cons (s_var (i := 1) rfl (by first | exact .inl rfl | exact .inr (.inl rfl))) c_nil))))))
abbrev s_law_some : Stmt := topS 51
abbrev N_law_some : List Str := ["_law_number", "_law_picture_here", "_law_found", "_law_k", "_law_row"]
abbrev P_law_some : List Str := ["_law_number", "_law_picture_here"]
theorem sc_law_some : FnScope N_law_some P_law_some (defScope s_law_some) := ⟨rfl, rfl, rfl, by decide +kernel, rfl, by decide +kernel, by decide +kernel⟩
noncomputable def b_law_some : MS :=
  (sSeq (sSet 2 (mLst mNil)) (sSeq (sFor (miR (mCons (mBin fMod (mVar 0) (mC (.int 5))) mNil)) (gN 3) (sSeq (sSet 4 (mBin fIx (mVar 1) (mBin fMod (mBin fFdiv (mVar 0) (mBin fAdd (mC (.int 5)) (mBin fMul (mC (.int 7)) (mVar 3)))) (mBi fLen (mConsT (mVar 1) mNilT))))) (sDrop (mMtF isLst fApp (mVar 2) (mCons (mBin fIx (mLst (mCons (mBin fIx (mVar 4) (mBin fMod (mBin fFdiv (mVar 0) (mBin fAdd (mC (.int 35)) (mVar 3))) (mBi fLen (mConsT (mVar 4) mNilT)))) (mCons (mBin fMod (mBin fFdiv (mVar 0) (mBin fAdd (mC (.int 60)) (mVar 3))) (mC (.int 16))) mNil))) (mBin fFdiv (mBin fMod (mBin fFdiv (mVar 0) (mBin fAdd (mC (.int 9)) (mBin fMul (mVar 3) (mVar 3)))) (mC (.int 3))) (mC (.int 2)))) mNil))))) (sRet (mBin fAdd (mVar 2) (mSl (mVar 2) mNoP (mP (mBin fMod (mBin fFdiv (mVar 0) (mC (.int 11))) (mC (.int 2)))))))))
noncomputable def m_law_some : List W → GH → R W := mDef 5 b_law_some
theorem ok_law_some {f : Addr} {fd : FuncData} {dvs : List V} (F : FunD K "_law_some" "_law_some" (defArgs s_law_some) (defBody s_law_some) (defScope s_law_some) dvs [] f fd) (T : Tx K mg ca) : FnOk P w K mg base (L2N.CX P w) 1 f fd P_law_some (spM K ca 2 m_law_some) := by
  refine def_okD (N := N_law_some) F sc_law_some fun cdv A outer s H E hr => ?_
  have hu := hr.units
  have hu5 := hu_five hr
  have tk : L2N.Takes (cxOf (L2N.CX P w) P w K mg base N_law_some "_law_some" (defScope s_law_some) f cdv A outer s H E) (fun c d _ H => E c d H) := L2N.takes_of rfl rfl rfl rfl
  exact (b_cons (s_set (i := 2) sc_law_some.nd rfl (.inl rfl) (s_lst a_nil)) (b_cons (s_for (passes_of rfl) rfl (i_range1 (by rfl) T.n_range (a_cons (s_bin op_mod says_mod (s_var (i := 0) rfl (.inl rfl)) s_int) a_nil)) (g_name (i := 3) sc_law_some.nd rfl (.inl rfl)) (b_cons (s_set (i := 4) sc_law_some.nd rfl (.inl rfl) (s_ix (s_var (i := 1) rfl (.inl rfl)) (s_bin op_mod says_mod (s_bin op_fdivW says_fdiv (s_var (i := 0) rfl (.inl rfl)) (s_bin op_addA says_add s_int (s_bin op_mulA says_mul s_int (s_var (i := 3) rfl (.inl rfl))))) (s_bi call_len says_len (by rfl) T.n_len bt_len (c_cons (s_var (i := 1) rfl (.inl rfl)) c_nil))))) (b_one (s_expr (s_mtF PySem.F.plainAttrs_list PySem.F.slot_list_append PySem.F.type_list_append mt_append says_app ty_list (s_var (i := 2) rfl (.inl rfl)) (a_cons (s_ix (s_lst (a_cons (s_ix (s_var (i := 4) rfl (.inl rfl)) (s_bin op_mod says_mod (s_bin op_fdivW says_fdiv (s_var (i := 0) rfl (.inl rfl)) (s_bin op_addA says_add s_int (s_var (i := 3) rfl (.inl rfl)))) (s_bi call_len says_len (by rfl) T.n_len bt_len (c_cons (s_var (i := 4) rfl (.inl rfl)) c_nil)))) (a_cons (s_bin op_mod says_mod (s_bin op_fdivW says_fdiv (s_var (i := 0) rfl (.inl rfl)) (s_bin op_addA says_add s_int (s_var (i := 3) rfl (.inl rfl)))) s_int) a_nil))) (s_bin op_fdivW says_fdiv (s_bin op_mod says_mod (s_bin op_fdivW says_fdiv (s_var (i := 0) rfl (.inl rfl)) (s_bin op_addA says_add s_int (s_bin op_mulA says_mul (s_var (i := 3) rfl (.inl rfl)) (s_var (i := 3) rfl (.inl rfl))))) s_int) s_int)) a_nil)))))) (b_one (s_ret (s_bin op_addA says_add (s_var (i := 2) rfl (.inl rfl)) (s_sl (s_var (i := 2) rfl (.inl rfl)) o_none (o_some (s_bin op_mod says_mod (s_bin op_fdivW says_fdiv (s_var (i := 0) rfl (.inl rfl)) s_int) s_int))))))))
abbrev s_law_word : Stmt := topS 52
abbrev N_law_word : List Str := ["_law_which", "_law_one", "_law_other", "_law_mask_here", "_law_last", "_law_error"]
abbrev P_law_word : List Str := ["_law_which", "_law_one", "_law_other", "_law_mask_here", "_law_last"]
theorem sc_law_word : FnScope N_law_word P_law_word (defScope s_law_word) := ⟨rfl, rfl, rfl, by decide +kernel, rfl, by decide +kernel, by decide +kernel⟩
noncomputable def b_law_word : MS :=
  (sSeq (sTry xt 0 5 (sIf (mB (mBin fEq (mVar 0) (mC (.int 0)))) (sDrop (mCall m_mask_of [] (mCons (mVar 1) (mCons (mVar 4) mNil)))) (sIf (mB (mBin fEq (mVar 0) (mC (.int 1)))) (sDrop (mCall m_painted [] (mCons (mVar 1) (mCons (mVar 3) (mCons (mVar 4) mNil))))) (sDrop (mCall m_chosen_cells [] (mCons (mVar 1) (mCons (mVar 2) (mCons (mVar 3) mNil))))))) (fun c a => (sRet (mCall (m_law_class c a) [] (mCons (mVar 5) mNil))))) (sRet (mC (.str ""))))
noncomputable def m_law_word : List W → GH → R W := mDef 6 b_law_word
theorem ok_law_word {f : Addr} {fd : FuncData} {dvs : List V} (F : FunD K "_law_word" "_law_word" (defArgs s_law_word) (defBody s_law_word) (defScope s_law_word) dvs [] f fd) (T : Tx K mg ca) (C_law_class : CallX P w K mg base ca 1 "_law_class" P_law_class m_law_class) (C_chosen_cells : Callable P w K mg base ca 6 "chosen_cells" P_chosen_cells [] m_chosen_cells) (C_mask_of : Callable P w K mg base ca 6 "mask_of" P_mask_of [] m_mask_of) (C_painted : Callable P w K mg base ca 6 "painted" P_painted [] m_painted) : FnOk P w K mg base (L2N.CX P w) 7 f fd P_law_word (spM K ca 5 m_law_word) := by
  refine def_okD (N := N_law_word) F sc_law_word fun cdv A outer s H E hr => ?_
  have hu := hr.units
  have hu5 := hu_five hr
  have tk : L2N.Takes (cxOf (L2N.CX P w) P w K mg base N_law_word "_law_word" (defScope s_law_word) f cdv A outer s H E) (fun c d _ H => E c d H) := L2N.takes_of rfl rfl rfl rfl
  exact (b_cons (s_try (i := 5) T.E rfl rfl sc_law_word.nd rfl rfl ⟨by rfl, by decide, .inl T.g_FolioError⟩ tk (fun W pn xe tk pass => (b_one (s_if (s_testCmp (op_eqA hu) says_eq (s_var (i := 0) rfl (.inl rfl)) s_int (nomark _)) (b_one (s_expr (s_call C_mask_of (hr.mono (by decide)) (by rfl) tk (a_cons (s_var (i := 1) rfl (.inl rfl)) (a_cons (s_var (i := 4) rfl (.inl rfl)) a_nil)) (len_dws (len_cons (len_cons len_nil)) rfl)))) (b_one (s_if (s_testCmp (op_eqA hu) says_eq (s_var (i := 0) rfl (.inl rfl)) s_int (nomark _)) (b_one (s_expr (s_call C_painted (hr.mono (by decide)) (by rfl) tk (a_cons (s_var (i := 1) rfl (.inl rfl)) (a_cons (s_var (i := 3) rfl (.inl rfl)) (a_cons (s_var (i := 4) rfl (.inl rfl)) a_nil))) (len_dws (len_cons (len_cons (len_cons len_nil))) rfl)))) (b_one (s_expr (s_call C_chosen_cells (hr.mono (by decide)) (by rfl) tk (a_cons (s_var (i := 1) rfl (.inl rfl)) (a_cons (s_var (i := 2) rfl (.inl rfl)) (a_cons (s_var (i := 3) rfl (.inl rfl)) a_nil))) (len_dws (len_cons (len_cons (len_cons len_nil))) rfl))))))))) (fun c a oe pn hx => (b_one (s_ret (s_callX C_law_class (roomX hr _ (by decide)) hx (by rfl) (a_cons (s_var (i := 5) rfl (.inl rfl)) a_nil) (len_dws (len_cons len_nil) rfl)))))) (b_one (s_ret s_str)))
abbrev s_law_refused : Stmt := topS 53
abbrev N_law_refused : List Str := ["_law_one", "_law_other", "_law_mask_here", "_law_number", "_law_asked", "_law_bad", "_law_due", "_law_far", "_law_first", "_law_last", "_law_lists", "_law_low", "_law_no_cell", "_law_no_mask", "_law_second", "_law_tall", "_law_third", "_law_which", "_law_wide", "_law_row"]
abbrev P_law_refused : List Str := ["_law_one", "_law_other", "_law_mask_here", "_law_number"]
theorem sc_law_refused : FnScope N_law_refused P_law_refused (defScope s_law_refused) := ⟨rfl, rfl, rfl, by decide +kernel, rfl, by decide +kernel, by decide +kernel⟩
noncomputable def b_law_refused : MS :=
  (sSeq (sSet 5 (mCall m_law_wrong_picture [] (mCons (mVar 3) (mCons (mVar 0) mNil)))) (sSeq (sSet 13 (mCall m_law_wrong_mask [] (mCons (mBin fFdiv (mVar 3) (mC (.int 7))) (mCons (mVar 2) mNil)))) (sSeq (sSet 7 (mIf (mB (mBin fLt (mBi fLen (mConsT (mBin fIx (mVar 1) (mC (.int 0))) mNilT)) (mC (.int 24)))) (mComp (miA (mVar 1)) (gN 19) mYes (mBin fAdd (mVar 19) (mLst (mCons (mC (.int 0)) mNil))) [19]) (mBin fAdd (mSl (mVar 1) (mP (mC (.int 1))) mNoP) (mBin fMul (mSl (mVar 1) mNoP (mP (mC (.int 1)))) (mC (.int 2)))))) (sSeq (sIf (mAnd (mB (mBin fEq (mBi fLen (mConsT (mBin fIx (mVar 1) (mC (.int 0))) mNilT)) (mC (.int 24)))) (mB (mBin fEq (mBi fLen (mConsT (mVar 1) mNilT)) (mC (.int 24))))) (sSet 7 (mLst (mCons (mLst (mCons (mC (.int 0)) mNil)) mNil))) sNext) (sSeq (sSet 18 (mTup (mCons (mBin fAdd (mBin fMod (mBin fIx (mVar 2) (mC (.int 0))) (mC (.int 24))) (mC (.int 1))) (mCons (mBi fTuple (mConsT (mComp (miA (mBin fIx (mVar 2) (mC (.int 1)))) (gN 19) mYes (mBin fMod (mVar 19) (mC (.int 2))) [19]) mNilT)) mNil)))) (sSeq (sSet 15 (mTup (mCons (mBin fIx (mVar 2) (mC (.int 0))) (mCons (mIf (mB (mBin fLt (mBi fLen (mConsT (mBin fIx (mVar 2) (mC (.int 1))) mNilT)) (mC (.int 24)))) (mBin fAdd (mBin fIx (mVar 2) (mC (.int 1))) (mTup (mCons (mC (.int 0)) mNil))) (mSl (mBin fIx (mVar 2) (mC (.int 1))) mNoP (mP (mC (.int 23))))) mNil)))) (sSeq (sSet 11 (mTup (mCons (mBin fIx (mVar 2) (mC (.int 0))) (mCons (mIf (mB (mBin fGt (mBi fLen (mConsT (mBin fIx (mVar 2) (mC (.int 1))) mNilT)) (mC (.int 1)))) (mSl (mBin fIx (mVar 2) (mC (.int 1))) (mP (mC (.int 1))) mNoP) (mBin fMul (mBin fIx (mVar 2) (mC (.int 1))) (mC (.int 3)))) mNil)))) (sSeq (sSet 12 (mCall m_law_wrong_cell [] (mCons (mBin fFdiv (mVar 3) (mC (.int 5))) mNil))) (sSeq (sSet 10 (mBin fIx (mLst (mCons (mC .non) (mCons (mBi fTuple (mConsT (mLst (mCons (mC (.int 1)) mNil)) mNilT)) (mCons (mLst (mCons (mVar 12) mNil)) (mCons (mLst (mCons (mC (.int 0)) (mCons (mVar 12) mNil))) (mCons (mC (.str "01")) (mCons (mC (.int 5)) (mCons mDict0 mNil)))))))) (mBin fMod (mBin fFdiv (mVar 3) (mC (.int 45))) (mC (.int 7))))) (sSeq (sSet 4 (mLst (mCons (mTup (mCons (mC (.int 0)) (mCons (mVar 5) (mCons (mVar 0) (mCons (mVar 2) (mCons (mVar 10) (mCons (mC (.str "picture")) mNil))))))) (mCons (mTup (mCons (mC (.int 0)) (mCons (mVar 0) (mCons (mVar 0) (mCons (mVar 2) (mCons (mVar 10) (mCons (mC (.str "cell")) mNil))))))) mNil)))) (sSeq (sSet 4 (mBin fAdd (mVar 4) (mLst (mCons (mTup (mCons (mC (.int 1)) (mCons (mVar 5) (mCons (mVar 0) (mCons (mVar 13) (mCons (mVar 12) (mCons (mC (.str "picture")) mNil))))))) (mCons (mTup (mCons (mC (.int 1)) (mCons (mVar 0) (mCons (mVar 0) (mCons (mVar 13) (mCons (mVar 12) (mCons (mC (.str "mask")) mNil))))))) mNil))))) (sSeq (sSet 4 (mBin fAdd (mVar 4) (mLst (mCons (mTup (mCons (mC (.int 1)) (mCons (mVar 0) (mCons (mVar 0) (mCons (mVar 18) (mCons (mVar 12) (mCons (mC (.str "size")) mNil))))))) (mCons (mTup (mCons (mC (.int 1)) (mCons (mVar 0) (mCons (mVar 0) (mCons (mVar 2) (mCons (mVar 12) (mCons (mC (.str "cell")) mNil))))))) mNil))))) (sSeq (sSet 4 (mBin fAdd (mVar 4) (mLst (mCons (mTup (mCons (mC (.int 2)) (mCons (mVar 5) (mCons (mVar 5) (mCons (mVar 13) (mCons (mC (.int 0)) (mCons (mC (.str "picture")) mNil))))))) (mCons (mTup (mCons (mC (.int 2)) (mCons (mVar 0) (mCons (mVar 5) (mCons (mVar 13) (mCons (mC (.int 0)) (mCons (mC (.str "picture")) mNil))))))) mNil))))) (sSeq (sSet 4 (mBin fAdd (mVar 4) (mLst (mCons (mTup (mCons (mC (.int 2)) (mCons (mVar 0) (mCons (mVar 7) (mCons (mVar 13) (mCons (mC (.int 0)) (mCons (mC (.str "mask")) mNil))))))) (mCons (mTup (mCons (mC (.int 2)) (mCons (mVar 0) (mCons (mVar 7) (mCons (mVar 2) (mCons (mC (.int 0)) (mCons (mC (.str "size")) mNil))))))) mNil))))) (sSeq (sSet 4 (mBin fAdd (mVar 4) (mLst (mCons (mTup (mCons (mC (.int 2)) (mCons (mVar 0) (mCons (mVar 1) (mCons (mVar 18) (mCons (mC (.int 0)) (mCons (mC (.str "size")) mNil))))))) (mCons (mTup (mCons (mC (.int 1)) (mCons (mVar 0) (mCons (mVar 0) (mCons (mVar 15) (mCons (mVar 12) (mCons (mC (.str "size")) mNil))))))) mNil))))) (sSeq (sSet 4 (mBin fAdd (mVar 4) (mLst (mCons (mTup (mCons (mC (.int 1)) (mCons (mVar 0) (mCons (mVar 0) (mCons (mVar 11) (mCons (mVar 12) (mCons (mC (.str "size")) mNil))))))) (mCons (mTup (mCons (mC (.int 2)) (mCons (mVar 0) (mCons (mVar 1) (mCons (mVar 15) (mCons (mC (.int 0)) (mCons (mC (.str "size")) mNil))))))) mNil))))) (sSeq (sSet 4 (mBin fAdd (mVar 4) (mLst (mCons (mTup (mCons (mC (.int 2)) (mCons (mVar 0) (mCons (mVar 1) (mCons (mVar 11) (mCons (mC (.int 0)) (mCons (mC (.str "size")) mNil))))))) (mCons (mTup (mCons (mC (.int 2)) (mCons (mVar 5) (mCons (mVar 1) (mCons (mVar 2) (mCons (mC (.int 0)) (mCons (mC (.str "picture")) mNil))))))) mNil))))) (sSeq (sFor (miA (mVar 4)) (gT (gC (gN 17) (gC (gN 8) (gC (gN 14) (gC (gN 16) (gC (gN 9) (gC (gN 6) gE))))))) (sIf (mB (mBin fNe (mCall m_law_word [] (mCons (mVar 17) (mCons (mVar 8) (mCons (mVar 14) (mCons (mVar 16) (mCons (mVar 9) mNil)))))) (mBin fAdd (mC (.str "value ")) (mVar 6)))) (sRet (mC (.bl false))) sNext)) (sRet (mC (.bl true)))))))))))))))))))))
noncomputable def m_law_refused : List W → GH → R W := mDef 20 b_law_refused
theorem ok_law_refused {f : Addr} {fd : FuncData} {dvs : List V} (F : FunD K "_law_refused" "_law_refused" (defArgs s_law_refused) (defBody s_law_refused) (defScope s_law_refused) dvs [] f fd) (T : Tx K mg ca) (C_law_word : Callable P w K mg base ca 7 "_law_word" P_law_word [] m_law_word) (C_law_wrong_cell : Callable P w K mg base ca 1 "_law_wrong_cell" P_law_wrong_cell [] m_law_wrong_cell) (C_law_wrong_mask : Callable P w K mg base ca 2 "_law_wrong_mask" P_law_wrong_mask [] m_law_wrong_mask) (C_law_wrong_picture : Callable P w K mg base ca 1 "_law_wrong_picture" P_law_wrong_picture [] m_law_wrong_picture) : FnOk P w K mg base (L2N.CX P w) 8 f fd P_law_refused (spM K ca 4 m_law_refused) := by
  refine def_okD (N := N_law_refused) F sc_law_refused fun cdv A outer s H E hr => ?_
  have hu := hr.units
  have hu5 := hu_five hr
  have tk : L2N.Takes (cxOf (L2N.CX P w) P w K mg base N_law_refused "_law_refused" (defScope s_law_refused) f cdv A outer s H E) (fun c d _ H => E c d H) := L2N.takes_of rfl rfl rfl rfl
  exact (b_cons (s_set (i := 5) sc_law_refused.nd rfl (.inl rfl) (s_call C_law_wrong_picture (hr.mono (by decide)) (by rfl) tk (a_cons (s_var (i := 3) rfl (.inl rfl)) (a_cons (s_var (i := 0) rfl (.inl rfl)) a_nil)) (len_dws (len_cons (len_cons len_nil)) rfl))) (b_cons (s_set (i := 13) sc_law_refused.nd rfl (.inl rfl) (s_call C_law_wrong_mask (hr.mono (by decide)) (by rfl) tk (a_cons (s_bin op_fdivW says_fdiv (s_var (i := 3) rfl (.inl rfl)) s_int) (a_cons (s_var (i := 2) rfl (.inl rfl)) a_nil)) (len_dws (len_cons (len_cons len_nil)) rfl))) (b_cons (s_set (i := 7) sc_law_refused.nd rfl (.inl rfl) (s_ife (s_testCmp op_lt says_C (s_bi call_len says_len (by rfl) T.n_len bt_len (c_cons (s_ix (s_var (i := 1) rfl (.inl rfl)) s_int) c_nil)) s_int (nomark _)) (s_lc (own := [("_law_row", 19)]) rfl sc_law_refused.nd (i_any (s_var (i := 1) rfl (.inl rfl))) (blkOk_by (N := N_law_refused) (sc := defScope s_law_refused) (by decide +kernel)) (fun _ _ _ _ _ => (pg_name (i := 19) sc_law_refused.nd rfl (by first | exact .inl rfl | exact .inr rfl))) tgt_name (own_name (by decide)) (fun _ _ _ _ _ => ts_nil) (fun _ _ _ _ _ => (s_bin op_addA says_add (s_var (i := 19) rfl (by first | exact .inl rfl | exact .inr (.inl rfl))) (s_lst (a_cons s_int a_nil))))) (s_bin op_addA says_add (s_sl (s_var (i := 1) rfl (.inl rfl)) (o_some s_int) o_none) (s_bin op_mulA says_mul (s_sl (s_var (i := 1) rfl (.inl rfl)) o_none (o_some s_int)) s_int)))) (b_cons (s_if (PW.pt (w_and (s_testCmp (op_eqA hu) says_eq (s_bi call_len says_len (by rfl) T.n_len bt_len (c_cons (s_ix (s_var (i := 1) rfl (.inl rfl)) s_int) c_nil)) s_int (nomark _)) (w_and1 (s_testCmp (op_eqA hu) says_eq (s_bi call_len says_len (by rfl) T.n_len bt_len (c_cons (s_var (i := 1) rfl (.inl rfl)) c_nil)) s_int (nomark _))))) (b_one (s_set (i := 7) sc_law_refused.nd rfl (.inl rfl) (s_lst (a_cons (s_lst (a_cons s_int a_nil)) a_nil)))) b_nil) (b_cons (s_set (i := 18) sc_law_refused.nd rfl (.inl rfl) (s_tup (a_cons (s_bin op_addA says_add (s_bin op_mod says_mod (s_ix (s_var (i := 2) rfl (.inl rfl)) s_int) s_int) s_int) (a_cons (s_bty call_tuple_of says_tuple (by rfl) T.n_tuple bt_tuple (c_cons (s_lc (own := [("_law_row", 19)]) rfl sc_law_refused.nd (i_any (s_ix (s_var (i := 2) rfl (.inl rfl)) s_int)) (blkOk_by (N := N_law_refused) (sc := defScope s_law_refused) (by decide +kernel)) (fun _ _ _ _ _ => (pg_name (i := 19) sc_law_refused.nd rfl (by first | exact .inl rfl | exact .inr rfl))) tgt_name (own_name (by decide)) (fun _ _ _ _ _ => ts_nil) (fun _ _ _ _ _ => (s_bin op_mod says_mod (s_var (i := 19) rfl (by first | exact .inl rfl | exact .inr (.inl rfl))) s_int))) c_nil)) a_nil)))) (b_cons (s_set (i := 15) sc_law_refused.nd rfl (.inl rfl) (s_tup (a_cons (s_ix (s_var (i := 2) rfl (.inl rfl)) s_int) (a_cons (s_ife (s_testCmp op_lt says_C (s_bi call_len says_len (by rfl) T.n_len bt_len (c_cons (s_ix (s_var (i := 2) rfl (.inl rfl)) s_int) c_nil)) s_int (nomark _)) (s_bin op_addA says_add (s_ix (s_var (i := 2) rfl (.inl rfl)) s_int) (s_tup (a_cons s_int a_nil))) (s_sl (s_ix (s_var (i := 2) rfl (.inl rfl)) s_int) o_none (o_some s_int))) a_nil)))) (b_cons (s_set (i := 11) sc_law_refused.nd rfl (.inl rfl) (s_tup (a_cons (s_ix (s_var (i := 2) rfl (.inl rfl)) s_int) (a_cons (s_ife (s_testCmp op_gt says_C (s_bi call_len says_len (by rfl) T.n_len bt_len (c_cons (s_ix (s_var (i := 2) rfl (.inl rfl)) s_int) c_nil)) s_int (nomark _)) (s_sl (s_ix (s_var (i := 2) rfl (.inl rfl)) s_int) (o_some s_int) o_none) (s_bin op_mulA says_mul (s_ix (s_var (i := 2) rfl (.inl rfl)) s_int) s_int)) a_nil)))) (b_cons (s_set (i := 12) sc_law_refused.nd rfl (.inl rfl) (s_call C_law_wrong_cell (hr.mono (by decide)) (by rfl) tk (a_cons (s_bin op_fdivW says_fdiv (s_var (i := 3) rfl (.inl rfl)) s_int) a_nil) (len_dws (len_cons len_nil) rfl))) (b_cons (s_set (i := 10) sc_law_refused.nd rfl (.inl rfl) (s_ix (s_lst (a_cons s_non (a_cons (s_bty call_tuple_of says_tuple (by rfl) T.n_tuple bt_tuple (c_cons (s_lst (a_cons s_int a_nil)) c_nil)) (a_cons (s_lst (a_cons (s_var (i := 12) rfl (.inl rfl)) a_nil)) (a_cons (s_lst (a_cons s_int (a_cons (s_var (i := 12) rfl (.inl rfl)) a_nil))) (a_cons s_str (a_cons s_int (a_cons s_dict0 a_nil)))))))) (s_bin op_mod says_mod (s_bin op_fdivW says_fdiv (s_var (i := 3) rfl (.inl rfl)) s_int) s_int))) (b_cons (s_set (i := 4) sc_law_refused.nd rfl (.inl rfl) (s_lst (a_cons (s_tup (a_cons s_int (a_cons (s_var (i := 5) rfl (.inl rfl)) (a_cons (s_var (i := 0) rfl (.inl rfl)) (a_cons (s_var (i := 2) rfl (.inl rfl)) (a_cons (s_var (i := 10) rfl (.inl rfl)) (a_cons s_str a_nil))))))) (a_cons (s_tup (a_cons s_int (a_cons (s_var (i := 0) rfl (.inl rfl)) (a_cons (s_var (i := 0) rfl (.inl rfl)) (a_cons (s_var (i := 2) rfl (.inl rfl)) (a_cons (s_var (i := 10) rfl (.inl rfl)) (a_cons s_str a_nil))))))) a_nil)))) (b_cons (s_set (i := 4) sc_law_refused.nd rfl (.inl rfl) (s_bin op_addA says_add (s_var (i := 4) rfl (.inl rfl)) (s_lst (a_cons (s_tup (a_cons s_int (a_cons (s_var (i := 5) rfl (.inl rfl)) (a_cons (s_var (i := 0) rfl (.inl rfl)) (a_cons (s_var (i := 13) rfl (.inl rfl)) (a_cons (s_var (i := 12) rfl (.inl rfl)) (a_cons s_str a_nil))))))) (a_cons (s_tup (a_cons s_int (a_cons (s_var (i := 0) rfl (.inl rfl)) (a_cons (s_var (i := 0) rfl (.inl rfl)) (a_cons (s_var (i := 13) rfl (.inl rfl)) (a_cons (s_var (i := 12) rfl (.inl rfl)) (a_cons s_str a_nil))))))) a_nil))))) (b_cons (s_set (i := 4) sc_law_refused.nd rfl (.inl rfl) (s_bin op_addA says_add (s_var (i := 4) rfl (.inl rfl)) (s_lst (a_cons (s_tup (a_cons s_int (a_cons (s_var (i := 0) rfl (.inl rfl)) (a_cons (s_var (i := 0) rfl (.inl rfl)) (a_cons (s_var (i := 18) rfl (.inl rfl)) (a_cons (s_var (i := 12) rfl (.inl rfl)) (a_cons s_str a_nil))))))) (a_cons (s_tup (a_cons s_int (a_cons (s_var (i := 0) rfl (.inl rfl)) (a_cons (s_var (i := 0) rfl (.inl rfl)) (a_cons (s_var (i := 2) rfl (.inl rfl)) (a_cons (s_var (i := 12) rfl (.inl rfl)) (a_cons s_str a_nil))))))) a_nil))))) (b_cons (s_set (i := 4) sc_law_refused.nd rfl (.inl rfl) (s_bin op_addA says_add (s_var (i := 4) rfl (.inl rfl)) (s_lst (a_cons (s_tup (a_cons s_int (a_cons (s_var (i := 5) rfl (.inl rfl)) (a_cons (s_var (i := 5) rfl (.inl rfl)) (a_cons (s_var (i := 13) rfl (.inl rfl)) (a_cons s_int (a_cons s_str a_nil))))))) (a_cons (s_tup (a_cons s_int (a_cons (s_var (i := 0) rfl (.inl rfl)) (a_cons (s_var (i := 5) rfl (.inl rfl)) (a_cons (s_var (i := 13) rfl (.inl rfl)) (a_cons s_int (a_cons s_str a_nil))))))) a_nil))))) (b_cons (s_set (i := 4) sc_law_refused.nd rfl (.inl rfl) (s_bin op_addA says_add (s_var (i := 4) rfl (.inl rfl)) (s_lst (a_cons (s_tup (a_cons s_int (a_cons (s_var (i := 0) rfl (.inl rfl)) (a_cons (s_var (i := 7) rfl (.inl rfl)) (a_cons (s_var (i := 13) rfl (.inl rfl)) (a_cons s_int (a_cons s_str a_nil))))))) (a_cons (s_tup (a_cons s_int (a_cons (s_var (i := 0) rfl (.inl rfl)) (a_cons (s_var (i := 7) rfl (.inl rfl)) (a_cons (s_var (i := 2) rfl (.inl rfl)) (a_cons s_int (a_cons s_str a_nil))))))) a_nil))))) (b_cons (s_set (i := 4) sc_law_refused.nd rfl (.inl rfl) (s_bin op_addA says_add (s_var (i := 4) rfl (.inl rfl)) (s_lst (a_cons (s_tup (a_cons s_int (a_cons (s_var (i := 0) rfl (.inl rfl)) (a_cons (s_var (i := 1) rfl (.inl rfl)) (a_cons (s_var (i := 18) rfl (.inl rfl)) (a_cons s_int (a_cons s_str a_nil))))))) (a_cons (s_tup (a_cons s_int (a_cons (s_var (i := 0) rfl (.inl rfl)) (a_cons (s_var (i := 0) rfl (.inl rfl)) (a_cons (s_var (i := 15) rfl (.inl rfl)) (a_cons (s_var (i := 12) rfl (.inl rfl)) (a_cons s_str a_nil))))))) a_nil))))) (b_cons (s_set (i := 4) sc_law_refused.nd rfl (.inl rfl) (s_bin op_addA says_add (s_var (i := 4) rfl (.inl rfl)) (s_lst (a_cons (s_tup (a_cons s_int (a_cons (s_var (i := 0) rfl (.inl rfl)) (a_cons (s_var (i := 0) rfl (.inl rfl)) (a_cons (s_var (i := 11) rfl (.inl rfl)) (a_cons (s_var (i := 12) rfl (.inl rfl)) (a_cons s_str a_nil))))))) (a_cons (s_tup (a_cons s_int (a_cons (s_var (i := 0) rfl (.inl rfl)) (a_cons (s_var (i := 1) rfl (.inl rfl)) (a_cons (s_var (i := 15) rfl (.inl rfl)) (a_cons s_int (a_cons s_str a_nil))))))) a_nil))))) (b_cons (s_set (i := 4) sc_law_refused.nd rfl (.inl rfl) (s_bin op_addA says_add (s_var (i := 4) rfl (.inl rfl)) (s_lst (a_cons (s_tup (a_cons s_int (a_cons (s_var (i := 0) rfl (.inl rfl)) (a_cons (s_var (i := 1) rfl (.inl rfl)) (a_cons (s_var (i := 11) rfl (.inl rfl)) (a_cons s_int (a_cons s_str a_nil))))))) (a_cons (s_tup (a_cons s_int (a_cons (s_var (i := 5) rfl (.inl rfl)) (a_cons (s_var (i := 1) rfl (.inl rfl)) (a_cons (s_var (i := 2) rfl (.inl rfl)) (a_cons s_int (a_cons s_str a_nil))))))) a_nil))))) (b_cons (s_for (passes_of rfl) rfl (i_any (s_var (i := 4) rfl (.inl rfl))) (g_tup rfl (g_cons (g_name (i := 17) sc_law_refused.nd rfl (.inl rfl)) (g_cons (g_name (i := 8) sc_law_refused.nd rfl (.inl rfl)) (g_cons (g_name (i := 14) sc_law_refused.nd rfl (.inl rfl)) (g_cons (g_name (i := 16) sc_law_refused.nd rfl (.inl rfl)) (g_cons (g_name (i := 9) sc_law_refused.nd rfl (.inl rfl)) (g_cons (g_name (i := 6) sc_law_refused.nd rfl (.inl rfl)) g_nil)))))) (gl_cons (gl_cons (gl_cons (gl_cons (gl_cons (gl_cons gl_nil))))))) (b_one (s_if (s_testCmp (op_neA hu) says_ne (s_call C_law_word (hr.mono (by decide)) (by rfl) tk (a_cons (s_var (i := 17) rfl (.inl rfl)) (a_cons (s_var (i := 8) rfl (.inl rfl)) (a_cons (s_var (i := 14) rfl (.inl rfl)) (a_cons (s_var (i := 16) rfl (.inl rfl)) (a_cons (s_var (i := 9) rfl (.inl rfl)) a_nil))))) (len_dws (len_cons (len_cons (len_cons (len_cons (len_cons len_nil))))) rfl)) (s_bin op_addA says_add s_str (s_var (i := 6) rfl (.inl rfl))) (nomark _)) (b_one (s_ret s_bl)) b_nil))) (b_one (s_ret s_bl))))))))))))))))))))
abbrev s_law_by_cells : Stmt := topS 54
abbrev N_law_by_cells : List Str := ["_law_one", "_law_other", "_law_places_here", "_law_found", "_law_x", "_law_y"]
abbrev P_law_by_cells : List Str := ["_law_one", "_law_other", "_law_places_here"]
theorem sc_law_by_cells : FnScope N_law_by_cells P_law_by_cells (defScope s_law_by_cells) := ⟨rfl, rfl, rfl, by decide +kernel, rfl, by decide +kernel, by decide +kernel⟩
noncomputable def b_law_by_cells : MS :=
  (sSeq (sSet 3 (mCall m_law_copied [] (mCons (mVar 0) mNil))) (sSeq (sFor (miA (mVar 2)) (gT (gC (gN 4) (gC (gN 5) gE))) (sPut (mBin fIx (mVar 3) (mVar 5)) (mVar 4) (mBin fIx (mBin fIx (mVar 1) (mVar 5)) (mVar 4)))) (sRet (mVar 3))))
noncomputable def m_law_by_cells : List W → GH → R W := mDef 6 b_law_by_cells
theorem ok_law_by_cells {f : Addr} {fd : FuncData} {dvs : List V} (F : FunD K "_law_by_cells" "_law_by_cells" (defArgs s_law_by_cells) (defBody s_law_by_cells) (defScope s_law_by_cells) dvs [] f fd) (T : Tx K mg ca) (C_law_copied : Callable P w K mg base ca 1 "_law_copied" P_law_copied [] m_law_copied) : FnOk P w K mg base (L2N.CX P w) 2 f fd P_law_by_cells (spM K ca 3 m_law_by_cells) := by
  refine def_okD (N := N_law_by_cells) F sc_law_by_cells fun cdv A outer s H E hr => ?_
  have hu := hr.units
  have hu5 := hu_five hr
  have tk : L2N.Takes (cxOf (L2N.CX P w) P w K mg base N_law_by_cells "_law_by_cells" (defScope s_law_by_cells) f cdv A outer s H E) (fun c d _ H => E c d H) := L2N.takes_of rfl rfl rfl rfl
  exact (b_cons (s_set (i := 3) sc_law_by_cells.nd rfl (.inl rfl) (s_call C_law_copied (hr.mono (by decide)) (by rfl) tk (a_cons (s_var (i := 0) rfl (.inl rfl)) a_nil) (len_dws (len_cons len_nil) rfl))) (b_cons (s_for (passes_of rfl) rfl (i_any (s_var (i := 2) rfl (.inl rfl))) (g_tup rfl (g_cons (g_name (i := 4) sc_law_by_cells.nd rfl (.inl rfl)) (g_cons (g_name (i := 5) sc_law_by_cells.nd rfl (.inl rfl)) g_nil)) (gl_cons (gl_cons gl_nil))) (b_one (s_put (s_ix (s_var (i := 3) rfl (.inl rfl)) (s_var (i := 5) rfl (.inl rfl))) (s_var (i := 4) rfl (.inl rfl)) (s_ix (s_ix (s_var (i := 1) rfl (.inl rfl)) (s_var (i := 5) rfl (.inl rfl))) (s_var (i := 4) rfl (.inl rfl)))))) (b_one (s_ret (s_var (i := 3) rfl (.inl rfl))))))
abbrev s_law : Stmt := topS 55
abbrev N_law : List Str := ["_law_script", "_law_back", "_law_blank", "_law_cell_here", "_law_found", "_law_handed", "_law_high", "_law_lacks", "_law_mask_here", "_law_one", "_law_other", "_law_places_here", "_law_some_here", "_law_told", "_law_wide", "_law_row", "_law_x", "_law_y"]
abbrev P_law : List Str := ["_law_script"]
theorem sc_law : FnScope N_law P_law (defScope s_law) := ⟨rfl, rfl, rfl, by decide +kernel, rfl, by decide +kernel, by decide +kernel⟩
noncomputable def b_law : MS :=
  (sSeq (sSet 9 (mCall m_law_picture [] (mCons (mVar 0) (mCons (mC (.int 3)) (mCons (mC (.int 6)) mNil))))) (sSeq (sSet 14 (mBi fLen (mConsT (mBin fIx (mVar 9) (mC (.int 0))) mNilT))) (sSeq (sSet 6 (mBi fLen (mConsT (mVar 9) mNilT))) (sSeq (sSet 10 (mComp (miA (mRevL (mVar 9))) (gN 15) mYes (mComp (miA (mVar 15)) (gN 3) mYes (mBin fMod (mBin fAdd (mBin fMul (mVar 3) (mC (.int 7))) (mBin fFdiv (mCall m_law_mixed [] (mCons (mVar 0) (mCons (mC (.int 1)) mNil))) (mC (.int 3)))) (mC (.int 16))) [3]) [15])) (sSeq (sSet 12 (mCall m_law_some [] (mCons (mCall m_law_mixed [] (mCons (mVar 0) (mCons (mC (.int 14)) mNil))) (mCons (mVar 9) mNil)))) (sSeq (sSet 8 (mCall m_law_mask [] (mCons (mVar 0) (mCons (mC (.int 15)) (mCons (mVar 14) (mCons (mVar 6) mNil)))))) (sSeq (sSet 5 (mLst (mCons (mCall m_law_copied [] (mCons (mVar 9) mNil)) (mCons (mCall m_law_copied [] (mCons (mVar 10) mNil)) (mCons (mBi fList (mConsT (mVar 12) mNilT)) mNil))))) (sSeq (sSet 4 (mCall m_mask_of [] (mCons (mBin fIx (mVar 5) (mC (.int 0))) (mCons (mBin fIx (mVar 5) (mC (.int 2))) mNil)))) (sSeq (sSet 11 (mComp (miA (mCall m_law_places [] (mCons (mTup (mCons (mVar 14) (mCons (mBin fMul (mTup (mCons (mBin fSub (mCall m_law_power [] (mCons (mVar 14) mNil)) (mC (.int 1))) mNil)) (mVar 6)) mNil))) mNil))) (gT (gC (gN 16) (gC (gN 17) gE))) (mB (mBin fIn (mBin fIx (mBin fIx (mVar 9) (mVar 17)) (mVar 16)) (mVar 12))) (mTup (mCons (mVar 16) (mCons (mVar 17) mNil))) [16, 17])) (sSeq (sIf (mNot (mTru (mCall m_law_same_mask [] (mCons (mVar 4) (mCons (mCall m_law_mask_by [] (mCons (mVar 11) (mCons (mVar 14) (mCons (mVar 6) mNil)))) mNil))))) (sRet (mC (.bl false))) sNext) (sSeq (sIf (mB (mBin fNe (mCall m_mask_of [] (mCons (mBin fIx (mVar 5) (mC (.int 0))) (mCons (mComp (miR (mCons (mC (.int 16)) mNil)) (gN 3) (mB (mBin fNotIn (mVar 3) (mVar 12))) (mVar 3) [3]) mNil))) (mCall m_other_mask [] (mCons (mVar 4) mNil)))) (sRet (mC (.bl false))) sNext) (sSeq (sSet 7 (mLst (mCons (mCall m_other_mask [] (mCons (mVar 4) mNil)) (mCons (mCall m_other_mask [] (mCons (mVar 8) mNil)) mNil)))) (sSeq (sIf (mB (mBin fNe (mCall m_other_mask [] (mCons (mCall m_either_mask [] (mCons (mVar 4) (mCons (mVar 8) mNil))) mNil)) (mCall m_both_masks [] (mCons (mBin fIx (mVar 7) (mC (.int 0))) (mCons (mBin fIx (mVar 7) (mC (.int 1))) mNil))))) (sRet (mC (.bl false))) sNext) (sSeq (sIf (mB (mBin fNe (mCall m_other_mask [] (mCons (mCall m_both_masks [] (mCons (mVar 4) (mCons (mVar 8) mNil))) mNil)) (mCall m_either_mask [] (mCons (mBin fIx (mVar 7) (mC (.int 0))) (mCons (mBin fIx (mVar 7) (mC (.int 1))) mNil))))) (sRet (mC (.bl false))) sNext) (sSeq (sSet 3 (mBin fMod (mBin fFdiv (mCall m_law_mixed [] (mCons (mVar 0) (mCons (mC (.int 2)) mNil))) (mC (.int 7))) (mC (.int 16)))) (sSeq (sSet 2 (mComp (miA (mVar 9)) (gN 15) mYes (mBin fMul (mLst (mCons (mVar 3) mNil)) (mVar 14)) [15])) (sSeq (sSet 13 (mCall m_chosen_cells [] (mCons (mBin fIx (mVar 5) (mC (.int 0))) (mCons (mBin fIx (mVar 5) (mC (.int 1))) (mCons (mVar 8) mNil))))) (sSeq (sSet 1 (mCall m_chosen_cells [] (mCons (mBin fIx (mVar 5) (mC (.int 1))) (mCons (mVar 13) (mCons (mBin fIx (mVar 7) (mC (.int 1))) mNil))))) (sSeq (sIf (mOr (mB (mBin fNe (mCall m_chosen_cells [] (mCons (mVar 13) (mCons (mBin fIx (mVar 5) (mC (.int 0))) (mCons (mVar 8) mNil)))) (mVar 9))) (mB (mBin fNe (mVar 1) (mCall m_law_by_cells [] (mCons (mVar 10) (mCons (mVar 9) (mCons (mCall m_law_places [] (mCons (mBin fIx (mVar 7) (mC (.int 1))) mNil)) mNil))))))) (sRet (mC (.bl false))) sNext) (sSeq (sIf (mNot (mTru (mCall m_law_same [] (mCons (mVar 13) (mCons (mCall m_law_by_cells [] (mCons (mVar 9) (mCons (mVar 10) (mCons (mCall m_law_places [] (mCons (mVar 8) mNil)) mNil)))) mNil))))) (sRet (mC (.bl false))) sNext) (sSeq (sIf (mNot (mTru (mCall m_law_same [] (mCons (mCall m_painted [] (mCons (mBin fIx (mVar 5) (mC (.int 0))) (mCons (mVar 8) (mCons (mVar 3) mNil)))) (mCons (mCall m_law_by_cells [] (mCons (mVar 9) (mCons (mVar 2) (mCons (mCall m_law_places [] (mCons (mVar 8) mNil)) mNil)))) mNil))))) (sRet (mC (.bl false))) sNext) (sRet (mAndV (mBin fEq (mVar 5) (mLst (mCons (mVar 9) (mCons (mVar 10) (mCons (mVar 12) mNil))))) (mCall m_law_refused [] (mCons (mVar 9) (mCons (mVar 10) (mCons (mVar 8) (mCons (mCall m_law_mixed [] (mCons (mVar 0) (mCons (mC (.int 26)) mNil))) mNil))))))))))))))))))))))))))))
noncomputable def m_law : List W → GH → R W := mDef 18 b_law
theorem ok_law {f : Addr} {fd : FuncData} {dvs : List V} (F : FunD K "law" "law" (defArgs s_law) (defBody s_law) (defScope s_law) dvs [] f fd) (T : Tx K mg ca) (C_law_by_cells : Callable P w K mg base ca 2 "_law_by_cells" P_law_by_cells [] m_law_by_cells) (C_law_copied : Callable P w K mg base ca 1 "_law_copied" P_law_copied [] m_law_copied) (C_law_mask : Callable P w K mg base ca 3 "_law_mask" P_law_mask [] m_law_mask) (C_law_mask_by : Callable P w K mg base ca 2 "_law_mask_by" P_law_mask_by [] m_law_mask_by) (C_law_mixed : Callable P w K mg base ca 2 "_law_mixed" P_law_mixed [] m_law_mixed) (C_law_picture : Callable P w K mg base ca 3 "_law_picture" P_law_picture [] m_law_picture) (C_law_places : Callable P w K mg base ca 1 "_law_places" P_law_places [] m_law_places) (C_law_power : Callable P w K mg base ca 1 "_law_power" P_law_power [] m_law_power) (C_law_refused : Callable P w K mg base ca 8 "_law_refused" P_law_refused [] m_law_refused) (C_law_same : Callable P w K mg base ca 2 "_law_same" P_law_same [] m_law_same) (C_law_same_mask : Callable P w K mg base ca 2 "_law_same_mask" P_law_same_mask [] m_law_same_mask) (C_law_some : Callable P w K mg base ca 1 "_law_some" P_law_some [] m_law_some) (C_both_masks : Callable P w K mg base ca 4 "both_masks" P_both_masks [] m_both_masks) (C_chosen_cells : Callable P w K mg base ca 6 "chosen_cells" P_chosen_cells [] m_chosen_cells) (C_either_mask : Callable P w K mg base ca 4 "either_mask" P_either_mask [] m_either_mask) (C_mask_of : Callable P w K mg base ca 6 "mask_of" P_mask_of [] m_mask_of) (C_other_mask : Callable P w K mg base ca 5 "other_mask" P_other_mask [] m_other_mask) (C_painted : Callable P w K mg base ca 6 "painted" P_painted [] m_painted) : FnOk P w K mg base (L2N.CX P w) 9 f fd P_law (spM K ca 1 m_law) := by
  refine def_okD (N := N_law) F sc_law fun cdv A outer s H E hr => ?_
  have hu := hr.units
  have hu5 := hu_five hr
  have tk : L2N.Takes (cxOf (L2N.CX P w) P w K mg base N_law "law" (defScope s_law) f cdv A outer s H E) (fun c d _ H => E c d H) := L2N.takes_of rfl rfl rfl rfl
  exact (b_cons (s_set (i := 9) sc_law.nd rfl (.inr rfl) (s_call C_law_picture (hr.mono (by decide)) (by rfl) tk (a_cons (s_var (i := 0) rfl (.inr (.inl rfl))) (a_cons s_int (a_cons s_int a_nil))) (len_dws (len_cons (len_cons (len_cons len_nil))) rfl))) (b_cons (s_set (i := 14) sc_law.nd rfl (.inr rfl) (s_bi call_len says_len (by rfl) T.n_len bt_len (c_cons (s_ix (s_var (i := 9) rfl (.inr (.inl rfl))) s_int) c_nil))) (b_cons (s_set (i := 6) sc_law.nd rfl (.inl rfl) (s_bi call_len says_len (by rfl) T.n_len bt_len (c_cons (s_var (i := 9) rfl (.inr (.inl rfl))) c_nil))) (b_cons (s_setLc (i := 10) (own := [("_law_row", 15)]) rfl sc_law.nd rfl rfl (sw_true rfl rfl rfl (by decide +kernel)) (i_any (s_revL (s_var (i := 9) rfl (.inr (.inl rfl))))) (blkOk_by (N := N_law) (sc := defScope s_law) (by decide +kernel)) (fun _ _ _ _ _ => (pg_name (i := 15) sc_law.nd rfl (by first | exact .inl rfl | exact .inr rfl))) tgt_name (own_name (by decide)) (fun _ _ _ _ _ => ts_nil) (fun _ _ _ _ _ => (s_lc (own := [("_law_cell_here", 3)]) rfl sc_law.nd (i_any (s_var (i := 15) rfl (by first | exact .inl rfl | exact .inr (.inl rfl)))) (blkOk_by (by kernel_rfl)) (fun _ _ _ _ _ => (pg_name (i := 3) sc_law.nd rfl (by first | exact .inl rfl | exact .inr rfl))) tgt_name (own_name (by decide)) (fun _ _ _ _ _ => ts_nil) (fun _ _ _ _ _ => (s_bin op_mod says_mod (s_bin op_addA says_add (s_bin op_mulA says_mul (s_var (i := 3) rfl (by first | exact .inl rfl | exact .inr (.inl rfl))) s_int) (s_bin op_fdivW says_fdiv (s_call C_law_mixed (hr.mono (by decide)) (by rfl) takesN (a_cons (s_var (i := 0) rfl (by first | exact .inr (.inl rfl) | exact .inr (.inr rfl) | exact .inl rfl)) (a_cons s_int a_nil)) (len_dws (len_cons (len_cons len_nil)) rfl)) s_int)) s_int))))) (b_cons (s_set (i := 12) sc_law.nd rfl (.inr rfl) (s_call C_law_some (hr.mono (by decide)) (by rfl) tk (a_cons (s_call C_law_mixed (hr.mono (by decide)) (by rfl) tk (a_cons (s_var (i := 0) rfl (.inr (.inl rfl))) (a_cons s_int a_nil)) (len_dws (len_cons (len_cons len_nil)) rfl)) (a_cons (s_var (i := 9) rfl (.inr (.inl rfl))) a_nil)) (len_dws (len_cons (len_cons len_nil)) rfl))) (b_cons (s_set (i := 8) sc_law.nd rfl (.inl rfl) (s_call C_law_mask (hr.mono (by decide)) (by rfl) tk (a_cons (s_var (i := 0) rfl (.inr (.inl rfl))) (a_cons s_int (a_cons (s_var (i := 14) rfl (.inr (.inl rfl))) (a_cons (s_var (i := 6) rfl (.inl rfl)) a_nil)))) (len_dws (len_cons (len_cons (len_cons (len_cons len_nil)))) rfl))) (b_cons (s_set (i := 5) sc_law.nd rfl (.inl rfl) (s_lst (a_cons (s_call C_law_copied (hr.mono (by decide)) (by rfl) tk (a_cons (s_var (i := 9) rfl (.inr (.inl rfl))) a_nil) (len_dws (len_cons len_nil) rfl)) (a_cons (s_call C_law_copied (hr.mono (by decide)) (by rfl) tk (a_cons (s_var (i := 10) rfl (.inl rfl)) a_nil) (len_dws (len_cons len_nil) rfl)) (a_cons (s_bty call_list_of says_list (by rfl) T.n_list bt_list (c_cons (s_var (i := 12) rfl (.inr (.inl rfl))) c_nil)) a_nil))))) (b_cons (s_set (i := 4) sc_law.nd rfl (.inl rfl) (s_call C_mask_of (hr.mono (by decide)) (by rfl) tk (a_cons (s_ix (s_var (i := 5) rfl (.inl rfl)) s_int) (a_cons (s_ix (s_var (i := 5) rfl (.inl rfl)) s_int) a_nil)) (len_dws (len_cons (len_cons len_nil)) rfl))) (b_cons (s_setLc (i := 11) (own := [("_law_x", 16), ("_law_y", 17)]) rfl sc_law.nd rfl rfl (sw_true rfl rfl rfl (by decide +kernel)) (i_any (s_call C_law_places (hr.mono (by decide)) (by rfl) tk (a_cons (s_tup (a_cons (s_var (i := 14) rfl (.inr (.inl rfl))) (a_cons (s_bin op_mulA says_mul (s_tup (a_cons (s_bin op_sub says_sub (s_call C_law_power (hr.mono (by decide)) (by rfl) tk (a_cons (s_var (i := 14) rfl (.inr (.inl rfl))) a_nil) (len_dws (len_cons len_nil) rfl)) s_int) a_nil)) (s_var (i := 6) rfl (.inl rfl))) a_nil))) a_nil) (len_dws (len_cons len_nil) rfl))) (blkOk_by (N := N_law) (sc := defScope s_law) (by decide +kernel)) (fun _ _ _ _ _ => (pg_tup rfl (pgs_cons (pg_name (i := 16) sc_law.nd rfl (by first | exact .inl rfl | exact .inr rfl)) (pgs_cons (pg_name (i := 17) sc_law.nd rfl (by first | exact .inl rfl | exact .inr rfl)) pgs_nil)))) (tgt_tup (tgt_cons tgt_name (tgt_cons tgt_name tgt_nil)) (gl_cons (gl_cons gl_nil))) (own_tup (own_cons (own_name (by decide)) mono_name (mono_cons mono_name mono_nil) (own_cons (own_name (by decide)) mono_name mono_nil own_nil))) (fun _ _ _ _ _ => (ts_one (s_testCmp (op_inA hu5) says_isin (s_ix (s_ix (s_var (i := 9) rfl (by first | exact .inr (.inl rfl) | exact .inr (.inr rfl) | exact .inl rfl)) (s_var (i := 17) rfl (by first | exact .inl rfl | exact .inr (.inl rfl)))) (s_var (i := 16) rfl (by first | exact .inl rfl | exact .inr (.inl rfl)))) (s_var (i := 12) rfl (by first | exact .inr (.inl rfl) | exact .inr (.inr rfl) | exact .inl rfl)) (by rfl)))) (fun _ _ _ _ _ => (s_tup (a_cons (s_var (i := 16) rfl (by first | exact .inl rfl | exact .inr (.inl rfl))) (a_cons (s_var (i := 17) rfl (by first | exact .inl rfl | exact .inr (.inl rfl))) a_nil))))) (b_cons (s_if (s_tnot (s_truth (s_call C_law_same_mask (hr.mono (by decide)) (by rfl) tk (a_cons (s_var (i := 4) rfl (.inl rfl)) (a_cons (s_call C_law_mask_by (hr.mono (by decide)) (by rfl) tk (a_cons (s_var (i := 11) rfl (.inl rfl)) (a_cons (s_var (i := 14) rfl (.inr (.inl rfl))) (a_cons (s_var (i := 6) rfl (.inl rfl)) a_nil))) (len_dws (len_cons (len_cons (len_cons len_nil))) rfl)) a_nil)) (len_dws (len_cons (len_cons len_nil)) rfl)))) (b_one (s_ret s_bl)) b_nil) (b_cons (s_if (s_testCmp (op_neA hu) says_ne (s_call C_mask_of (hr.mono (by decide)) (by rfl) tk (a_cons (s_ix (s_var (i := 5) rfl (.inl rfl)) s_int) (a_cons (s_lc (own := [("_law_cell_here", 3)]) rfl sc_law.nd (i_range1 (by rfl) T.n_range (a_cons s_int a_nil)) (blkOk_by (N := N_law) (sc := defScope s_law) (by decide +kernel)) (fun _ _ _ _ _ => (pg_name (i := 3) sc_law.nd rfl (by first | exact .inl rfl | exact .inr rfl))) tgt_name (own_name (by decide)) (fun _ _ _ _ _ => (ts_one (s_testCmp (op_notInA hu5) says_notIn (s_var (i := 3) rfl (by first | exact .inl rfl | exact .inr (.inl rfl))) (s_var (i := 12) rfl (by first | exact .inr (.inl rfl) | exact .inr (.inr rfl) | exact .inl rfl)) (by rfl)))) (fun _ _ _ _ _ => (s_var (i := 3) rfl (by first | exact .inl rfl | exact .inr (.inl rfl))))) a_nil)) (len_dws (len_cons (len_cons len_nil)) rfl)) (s_call C_other_mask (hr.mono (by decide)) (by rfl) tk (a_cons (s_var (i := 4) rfl (.inl rfl)) a_nil) (len_dws (len_cons len_nil) rfl)) (nomark _)) (b_one (s_ret s_bl)) b_nil) (b_cons (s_set (i := 7) sc_law.nd rfl (.inl rfl) (s_lst (a_cons (s_call C_other_mask (hr.mono (by decide)) (by rfl) tk (a_cons (s_var (i := 4) rfl (.inl rfl)) a_nil) (len_dws (len_cons len_nil) rfl)) (a_cons (s_call C_other_mask (hr.mono (by decide)) (by rfl) tk (a_cons (s_var (i := 8) rfl (.inl rfl)) a_nil) (len_dws (len_cons len_nil) rfl)) a_nil)))) (b_cons (s_if (s_testCmp (op_neA hu) says_ne (s_call C_other_mask (hr.mono (by decide)) (by rfl) tk (a_cons (s_call C_either_mask (hr.mono (by decide)) (by rfl) tk (a_cons (s_var (i := 4) rfl (.inl rfl)) (a_cons (s_var (i := 8) rfl (.inl rfl)) a_nil)) (len_dws (len_cons (len_cons len_nil)) rfl)) a_nil) (len_dws (len_cons len_nil) rfl)) (s_call C_both_masks (hr.mono (by decide)) (by rfl) tk (a_cons (s_ix (s_var (i := 7) rfl (.inl rfl)) s_int) (a_cons (s_ix (s_var (i := 7) rfl (.inl rfl)) s_int) a_nil)) (len_dws (len_cons (len_cons len_nil)) rfl)) (nomark _)) (b_one (s_ret s_bl)) b_nil) (b_cons (s_if (s_testCmp (op_neA hu) says_ne (s_call C_other_mask (hr.mono (by decide)) (by rfl) tk (a_cons (s_call C_both_masks (hr.mono (by decide)) (by rfl) tk (a_cons (s_var (i := 4) rfl (.inl rfl)) (a_cons (s_var (i := 8) rfl (.inl rfl)) a_nil)) (len_dws (len_cons (len_cons len_nil)) rfl)) a_nil) (len_dws (len_cons len_nil) rfl)) (s_call C_either_mask (hr.mono (by decide)) (by rfl) tk (a_cons (s_ix (s_var (i := 7) rfl (.inl rfl)) s_int) (a_cons (s_ix (s_var (i := 7) rfl (.inl rfl)) s_int) a_nil)) (len_dws (len_cons (len_cons len_nil)) rfl)) (nomark _)) (b_one (s_ret s_bl)) b_nil) (b_cons (s_set (i := 3) sc_law.nd rfl (.inr rfl) (s_bin op_mod says_mod (s_bin op_fdivW says_fdiv (s_call C_law_mixed (hr.mono (by decide)) (by rfl) tk (a_cons (s_var (i := 0) rfl (.inr (.inl rfl))) (a_cons s_int a_nil)) (len_dws (len_cons (len_cons len_nil)) rfl)) s_int) s_int)) (b_cons (s_setLc (i := 2) (own := [("_law_row", 15)]) rfl sc_law.nd rfl rfl (sw_true rfl rfl rfl (by decide +kernel)) (i_any (s_var (i := 9) rfl (.inr (.inl rfl)))) (blkOk_by (N := N_law) (sc := defScope s_law) (by decide +kernel)) (fun _ _ _ _ _ => (pg_name (i := 15) sc_law.nd rfl (by first | exact .inl rfl | exact .inr rfl))) tgt_name (own_name (by decide)) (fun _ _ _ _ _ => ts_nil) (fun _ _ _ _ _ => (s_bin op_mulA says_mul (s_lst (a_cons (s_var (i := 3) rfl (by first | exact .inr (.inl rfl) | exact .inr (.inr rfl) | exact .inl rfl)) a_nil)) (s_var (i := 14) rfl (by first | exact .inr (.inl rfl) | exact .inr (.inr rfl) | exact .inl rfl))))) (b_cons (s_set (i := 13) sc_law.nd rfl (.inl rfl) (s_call C_chosen_cells (hr.mono (by decide)) (by rfl) tk (a_cons (s_ix (s_var (i := 5) rfl (.inl rfl)) s_int) (a_cons (s_ix (s_var (i := 5) rfl (.inl rfl)) s_int) (a_cons (s_var (i := 8) rfl (.inl rfl)) a_nil))) (len_dws (len_cons (len_cons (len_cons len_nil))) rfl))) (b_cons (s_set (i := 1) sc_law.nd rfl (.inl rfl) (s_call C_chosen_cells (hr.mono (by decide)) (by rfl) tk (a_cons (s_ix (s_var (i := 5) rfl (.inl rfl)) s_int) (a_cons (s_var (i := 13) rfl (.inl rfl)) (a_cons (s_ix (s_var (i := 7) rfl (.inl rfl)) s_int) a_nil))) (len_dws (len_cons (len_cons (len_cons len_nil))) rfl))) (b_cons (s_if (PW.pt (w_or (s_testCmp (op_neA hu) says_ne (s_call C_chosen_cells (hr.mono (by decide)) (by rfl) tk (a_cons (s_var (i := 13) rfl (.inl rfl)) (a_cons (s_ix (s_var (i := 5) rfl (.inl rfl)) s_int) (a_cons (s_var (i := 8) rfl (.inl rfl)) a_nil))) (len_dws (len_cons (len_cons (len_cons len_nil))) rfl)) (s_var (i := 9) rfl (.inr (.inl rfl))) (nomark _)) (w_or1 (s_testCmp (op_neA hu) says_ne (s_var (i := 1) rfl (.inl rfl)) (s_call C_law_by_cells (hr.mono (by decide)) (by rfl) tk (a_cons (s_var (i := 10) rfl (.inl rfl)) (a_cons (s_var (i := 9) rfl (.inr (.inl rfl))) (a_cons (s_call C_law_places (hr.mono (by decide)) (by rfl) tk (a_cons (s_ix (s_var (i := 7) rfl (.inl rfl)) s_int) a_nil) (len_dws (len_cons len_nil) rfl)) a_nil))) (len_dws (len_cons (len_cons (len_cons len_nil))) rfl)) (nomark _))))) (b_one (s_ret s_bl)) b_nil) (b_cons (s_if (s_tnot (s_truth (s_call C_law_same (hr.mono (by decide)) (by rfl) tk (a_cons (s_var (i := 13) rfl (.inl rfl)) (a_cons (s_call C_law_by_cells (hr.mono (by decide)) (by rfl) tk (a_cons (s_var (i := 9) rfl (.inr (.inl rfl))) (a_cons (s_var (i := 10) rfl (.inl rfl)) (a_cons (s_call C_law_places (hr.mono (by decide)) (by rfl) tk (a_cons (s_var (i := 8) rfl (.inl rfl)) a_nil) (len_dws (len_cons len_nil) rfl)) a_nil))) (len_dws (len_cons (len_cons (len_cons len_nil))) rfl)) a_nil)) (len_dws (len_cons (len_cons len_nil)) rfl)))) (b_one (s_ret s_bl)) b_nil) (b_cons (s_if (s_tnot (s_truth (s_call C_law_same (hr.mono (by decide)) (by rfl) tk (a_cons (s_call C_painted (hr.mono (by decide)) (by rfl) tk (a_cons (s_ix (s_var (i := 5) rfl (.inl rfl)) s_int) (a_cons (s_var (i := 8) rfl (.inl rfl)) (a_cons (s_var (i := 3) rfl (.inr (.inl rfl))) a_nil))) (len_dws (len_cons (len_cons (len_cons len_nil))) rfl)) (a_cons (s_call C_law_by_cells (hr.mono (by decide)) (by rfl) tk (a_cons (s_var (i := 9) rfl (.inr (.inl rfl))) (a_cons (s_var (i := 2) rfl (.inl rfl)) (a_cons (s_call C_law_places (hr.mono (by decide)) (by rfl) tk (a_cons (s_var (i := 8) rfl (.inl rfl)) a_nil) (len_dws (len_cons len_nil) rfl)) a_nil))) (len_dws (len_cons (len_cons (len_cons len_nil))) rfl)) a_nil)) (len_dws (len_cons (len_cons len_nil)) rfl)))) (b_one (s_ret s_bl)) b_nil) (b_one (s_ret (v_and (s_cmp (op_eqA hu) says_eq (s_var (i := 5) rfl (.inl rfl)) (s_lst (a_cons (s_var (i := 9) rfl (.inr (.inl rfl))) (a_cons (s_var (i := 10) rfl (.inl rfl)) (a_cons (s_var (i := 12) rfl (.inr (.inl rfl))) a_nil)))) (nomark _)) (v_one (s_call C_law_refused (hr.mono (by decide)) (by rfl) tk (a_cons (s_var (i := 9) rfl (.inr (.inl rfl))) (a_cons (s_var (i := 10) rfl (.inl rfl)) (a_cons (s_var (i := 8) rfl (.inl rfl)) (a_cons (s_call C_law_mixed (hr.mono (by decide)) (by rfl) tk (a_cons (s_var (i := 0) rfl (.inr (.inl rfl))) (a_cons s_int a_nil)) (len_dws (len_cons (len_cons len_nil)) rfl)) a_nil)))) (len_dws (len_cons (len_cons (len_cons (len_cons len_nil)))) rfl)))))))))))))))))))))))))))
end
end Lk08
set_option Elab.async false
set_option linter.all false
set_option maxRecDepth 100000
set_option maxHeartbeats 4000000
namespace Lk08
open PySem PySem.Spec PyProof.Rows L2 Sy
theorem bits_pow (p : Nat) : Builtin.Int.intBits ((2 ^ p : Nat) : Int) ≤ p + 1 := by
  rw [PySem.intBits_le_iff]
  simp [Nat.pow_succ]
  have : 0 < 2 ^ p := Nat.pow_pos (by decide)
  omega
theorem power_eq (p : Nat) (hp : p ≤ 200) (G : GH) : m_law_power [.int p] G = .ok (.int ((2 ^ p : Nat) : Int)) G := by
  refine mDef_ok [some (.int p), none, none] ?_
  unfold b_law_power
  have hr : in62 (p : Int) = true := in62_of (by omega) (by omega)
  have h : ∃ s1, forL [] (gN 2) (sSet 1 (mBin fMul (mC (.int 2)) (mVar 1))) (rangeW 0 p) [some (.int p), some (.int 1), none] G = .nx [some (.int p), some (.int ((2 ^ p : Nat) : Int)), s1] G := by
    refine forL_run (fun i τ G' => G' = G ∧ ∃ s1, τ = [some (.int p), some (.int ((2 ^ i : Nat) : Int)), s1]) (fun r => ∃ s1, r = .nx [some (.int p), some (.int ((2 ^ p : Nat) : Int)), s1] G) ⟨rfl, none, rfl⟩ ?_ ?_
    · rintro i w τ G' hw ⟨rfl, s1, rfl⟩
      obtain ⟨hi, rfl⟩ := rangeW_get hw
      refine ⟨still_nil, _, rfl, ?_⟩
      have hm : mulOk 2 ((2 ^ i : Nat) : Int) = true := mulOk_of (a := 2) (b := 201) (by decide) (Nat.le_trans (bits_pow i) (by omega)) (by decide)
      have e : (2 : Int) * ((2 ^ i : Nat) : Int) = ((2 ^ (i + 1) : Nat) : Int) := by rw [Nat.pow_succ]; omega
      generalize ((2 ^ i : Nat) : Int) = q at *
      simp [fMul_int, hm, e]
    · rintro τ G' ⟨rfl, s1, rfl⟩
      rw [rangeW_len]
      exact ⟨still_nil, s1, rfl⟩
  obtain ⟨s1, h⟩ := h
  generalize ((2 ^ p : Nat) : Int) = q at *
  simp [sFor_at, miR_at, iterR_ok hr, h]
def cellZ (ns : List Int) (k : Nat) : Int := ns.getD k 0
abbrev scr (ns : List Int) : W := .frl (ns.map W.int)
@[simp] theorem fLen_frl (ws : List W) (G : GH) : fLen [.val (.frl ws)] G = .ok (.val (.int ws.length)) G := (rfl)
theorem fIx_frl {ws : List W} {k : Nat} {w : W} {G : GH} (h : ws[k]? = some w) : fIx (.val (.frl ws)) (.val (.int k)) G = .ok (.val w) G := by
  unfold fIx
  simp [atI_nat h]
theorem cell_eq (ns : List Int) (k : Nat) (G : GH) : m_law_cell [scr ns, .int k] G = .ok (.int (cellZ ns k)) G := by
  refine mDef_ok [some (scr ns), some (.int k)] ?_
  unfold b_law_cell cellZ
  by_cases h : k < ns.length
  · have e : (ns.map W.int)[k]? = some (.int ns[k]) := by simp [h]
    simp [h, fIx_frl e]
  · simp [h]
theorem bits_k (k : Nat) (hk : k ≤ 1000) : Builtin.Int.intBits ((k : Nat) : Int) ≤ 10 := by
  rw [PySem.intBits_le_iff]
  omega
theorem bits_cell {ns : List Int} (hb : ∀ z ∈ ns, Builtin.Int.intBits z ≤ 1048576) (k : Nat) : Builtin.Int.intBits (cellZ ns k) ≤ 1048576 := by
  unfold cellZ
  rw [List.getD_eq_getElem?_getD]
  cases e : ns[k]? with
  | none => exact (by decide : Builtin.Int.intBits 0 ≤ 1048576)
  | some z => exact hb z (List.mem_of_getElem? e)
def mixZ (z : Int) (k : Nat) : Int := (z + 7919 * k + 13) * (z + 7919 * k + 13) % 1000000007 * (z + 7919 * k + 13) % 998244353 / 11
theorem mixed_eq {ns : List Int} (hb : ∀ z ∈ ns, Builtin.Int.intBits z ≤ 1048576) (k : Nat) (hk : k ≤ 1000) (G : GH) : m_law_mixed [scr ns, .int k] G = .ok (.int (mixZ (cellZ ns k) k)) G := by
  refine mDef_ok [some (scr ns), some (.int k), none] ?_
  unfold b_law_mixed mixZ
  have h1 := bits_cell hb k
  generalize hz : cellZ ns k = z at h1
  have b2 : Builtin.Int.intBits (7919 : Int) ≤ 13 := by decide
  have b3 := bits_k k hk
  have b4 := bits_add (bits_add h1 (bits_mul b2 b3)) (show Builtin.Int.intBits (13 : Int) ≤ 4 by decide)
  have m1 : mulOk 7919 (k : Int) = true := mulOk_of b2 b3 (by decide)
  generalize hy : z + 7919 * (k : Int) + 13 = y at b4
  have m2 : mulOk y y = true := mulOk_of b4 b4 (by decide)
  have b5 := bits_emod (bits_mul b4 b4) (show Builtin.Int.intBits (1000000007 : Int) ≤ 30 by decide)
  have m3 : mulOk (y * y % 1000000007) y = true := mulOk_of b5 b4 (by decide)
  simp [cell_eq, hz, fMul_int, fFdiv_int, fMod_int, m1, hy, m2, m3, show Nat.log2 11 < 9000 by decide]
theorem mixZ_nat (z : Int) (k : Nat) : ∃ r : Nat, r < 90749487 ∧ mixZ z k = (r : Int) := by
  unfold mixZ
  generalize (z + 7919 * k + 13) * (z + 7919 * k + 13) % 1000000007 * (z + 7919 * k + 13) = y
  have h0 := Int.emod_nonneg y (show (998244353 : Int) ≠ 0 by decide)
  have h1 := Int.emod_lt_of_pos y (show (0 : Int) < 998244353 by decide)
  refine ⟨(y % 998244353 / 11).toNat, by omega, by omega⟩
theorem mixed_nat {ns : List Int} (hb : ∀ z ∈ ns, Builtin.Int.intBits z ≤ 1048576) (k : Nat) (hk : k ≤ 1000) : ∃ r : Nat, r < 90749487 ∧ ∀ G, m_law_mixed [scr ns, .int k] G = .ok (.int r) G := by
  obtain ⟨r, h1, h2⟩ := mixZ_nat (cellZ ns k) k
  exact ⟨r, h1, fun G => by rw [← h2]; exact mixed_eq hb k hk G⟩
theorem whole_int (i : Int) (G : GH) : m_law_whole [.int i] G = .ok (.bl true) G := by
  refine mDef_ok [some (.int i)] ?_
  rfl
def pw (p : Nat) : Int := ((2 ^ p : Nat) : Int)
theorem pw_pos (p : Nat) : 0 < pw p := by
  unfold pw
  have : 0 < 2 ^ p := Nat.pow_pos (by decide)
  omega
theorem pw_mono {p q : Nat} (h : p ≤ q) : pw p ≤ pw q := by
  unfold pw
  have : 2 ^ p ≤ 2 ^ q := Nat.pow_le_pow_right (by decide) h
  omega
theorem pw_bits (p : Nat) : Builtin.Int.intBits (pw p) ≤ p + 1 := bits_pow p
theorem power_pw (p : Nat) (hp : p ≤ 200) (G : GH) : m_law_power [.int p] G = .ok (.int (pw p)) G := power_eq p hp G
theorem bits_lt {r : Nat} {m : Nat} (h : r < 2 ^ m) : Builtin.Int.intBits (r : Int) ≤ m := by
  rw [PySem.intBits_le_iff]
  simpa using h
end Lk08
set_option Elab.async false
set_option linter.all false
set_option maxRecDepth 100000
set_option maxHeartbeats 4000000
namespace Lk08
open PySem PySem.Spec PyProof.Rows L2 Sy
theorem bits_small {z : Int} {m : Nat} (h0 : 0 ≤ z) (h : z < 2 ^ m) : Builtin.Int.intBits z ≤ m := by
  rw [PySem.intBits_le_iff]
  obtain ⟨n, rfl⟩ := Int.eq_ofNat_of_zero_le h0
  have : ((n : Nat) : Int) < ((2 ^ m : Nat) : Int) := by simpa using h
  simpa using Int.ofNat_lt.mp this
theorem nat_of {z : Int} (h : 0 ≤ z) : ∃ n : Nat, z = n := Int.eq_ofNat_of_zero_le h
theorem in62_small {z : Int} (h0 : 0 ≤ z) (h : z ≤ 1000000) : in62 z = true := in62_of (by omega) (by omega)
theorem iterR_nat (n : Nat) (h : n ≤ 1000000) (G : GH) : iterR [.int n] G = .ok (rangeW 0 n, []) G := by
  rw [iterR_ok (in62_small (by omega) (by omega))]; rfl
theorem mem_range {n : Nat} {w : W} (h : w ∈ rangeW 0 n) : ∃ i : Nat, i < n ∧ w = .int i := by
  obtain ⟨i, hi⟩ := List.getElem?_of_mem h
  obtain ⟨h1, h2⟩ := rangeW_get hi
  exact ⟨i, h1, by rw [h2, Int.zero_add]⟩
theorem rangeW_map {n : Nat} {β : Type} (f : W → β) (g : Nat → β) (h : ∀ i : Nat, f (.int i) = g i) : (rangeW 0 n).map f = (List.range n).map g := by
  unfold rangeW
  rw [List.map_map]
  apply List.map_congr_left
  intro i _
  show f (.int (0 + (i : Int))) = g i
  rw [Int.zero_add, h]
theorem log2_small {z : Int} (h0 : 0 < z) (h : z ≤ 1000000000) : z.natAbs.log2 < 9000 := by
  obtain ⟨n, rfl⟩ := Int.eq_ofNat_of_zero_le (Int.le_of_lt h0)
  have hn : n < 2 ^ 31 := by omega
  have h1 : n ≠ 0 := by omega
  have := (Nat.log2_lt h1).mpr hn
  show n.log2 < 9000
  omega
theorem mod_nat (z : Int) {m : Nat} (h : 0 < m) : ∃ n : Nat, z % m = n ∧ n < m := by
  have h1 := Int.emod_nonneg z (show (m : Int) ≠ 0 by omega)
  have h2 := Int.emod_lt_of_pos z (show (0 : Int) < m by omega)
  obtain ⟨n, hn⟩ := nat_of h1
  exact ⟨n, hn, by omega⟩
theorem all_true {α : Type} {p : α → Bool} {l : List α} (h : ∀ x ∈ l, p x = true) : l.all p = true := List.all_eq_true.mpr h
theorem fIx_loc {G : GH} {n : Nat} {ws : List W} {k : Nat} {w : W} (h : G[n]? = some (.lst ws)) (hk : ws[k]? = some w) : fIx (.val (.loc n)) (.val (.int k)) G = .ok (.val w) G := by
  unfold fIx
  simp [h, atI_nat hk]
theorem fIx_tup {G : GH} {ws : List W} {k : Nat} {w : W} (hk : ws[k]? = some w) : fIx (.val (.tup ws)) (.val (.int k)) G = .ok (.val w) G := by
  unfold fIx
  simp [atI_nat hk]
@[simp] theorem fIx_tup0 {G : GH} {ws : List W} {w : W} : fIx (.val (.tup (w :: ws))) (.val (.int 0)) G = .ok (.val w) G := fIx_tup (k := 0) rfl
@[simp] theorem fIx_tup1 {G : GH} {ws : List W} {u w : W} : fIx (.val (.tup (u :: w :: ws))) (.val (.int 1)) G = .ok (.val w) G := fIx_tup (k := 1) rfl
theorem iterA_at {G : GH} {n : Nat} {ws : List W} (h : G[n]? = some (.lst ws)) : iterA (.val (.loc n)) G = .ok (ws, [(n, ws)]) G := iterA_loc (by simp [h])
@[simp] theorem fLen_tup (ws : List W) (G : GH) : fLen [.val (.tup ws)] G = .ok (.val (.int ws.length)) G := (rfl)
theorem appOk {n : Nat} {us : List W} {w : W} {G : GH} (h : G[n]? = some (.lst us)) (hl : us.length ≤ 1000000) : fApp (.val (.loc n)) [w] G = .ok (.val .non) (G.set n (.lst (us ++ [w]))) := fApp_ok h (by omega)
theorem fTuple_loc {G : GH} {n : Nat} {ws : List W} (h : G[n]? = some (.lst ws)) : fTuple [.val (.loc n)] G = .ok (.val (.tup ws)) G := by
  unfold fTuple
  simp [h]
/-! among, cells -/
def amongW (lo hi : Int) : W → Bool
  | .int i => decide (lo ≤ i) && decide (i ≤ hi)
  | _ => false
abbrev okW (G : GH) (w : W) : Prop := (tyOf G (.val w)).isSome = true
theorem among_eq {G : GH} {w : W} (h : okW G w) (lo hi : Int) : m_is_among [w, .int lo, .int hi] G = .ok (.bl (amongW lo hi w)) G := by
  refine mDef_ok [some w, some (.int lo), some (.int hi)] ?_
  unfold b_is_among
  cases w with
  | int i =>
    simp [amongW]
    by_cases h1 : lo ≤ i
    · simp [h1]
    · simp [h1]
  | bl b => simp [amongW]
  | non => simp [amongW]
  | str x => simp [amongW]
  | tup ws => simp [amongW]
  | loc n =>
    have e : ∃ a, tyOf G (.val (.loc n)) = some a ∧ subTy a "int" = some false := by
      unfold okW tyOf at h
      unfold tyOf
      dsimp only at h ⊢
      cases e : G[n]? with
      | none => rw [e] at h; cases h
      | some o =>
        rw [e] at h
        cases o with
        | lst ws => exact ⟨_, rfl, by decide⟩
        | dK ws => exact ⟨_, rfl, by decide⟩
        | dT ws => exact ⟨_, rfl, by decide⟩
        | ins c fs => cases h
    obtain ⟨a, e1, e2⟩ := e
    have := isi_of e1 e2
    simp [amongW, this]
  | frl ws =>
    have := isi_of (G := G) (t := .val (.frl ws)) (a := "list") (b := "int") (r := false) rfl (by decide)
    simp [amongW, this]
  | ty n => cases h
  | cls n => cases h
  | exn n a => cases h
theorem okW_int (G : GH) (i : Int) : okW G (.int i) := rfl
open N7
/-! masks -/
abbrev nW (rows : List Nat) : List W := rows.map fun (r : Nat) => W.int r
abbrev mk (wide : Nat) (rows : List Nat) : W := .tup [.int wide, .tup (nW rows)]
structure GoodM (wide : Nat) (rows : List Nat) : Prop where
  w0 : 0 < wide
  w1 : wide ≤ 24
  h0 : 0 < rows.length
  h1 : rows.length ≤ 24
  row : ∀ r ∈ rows, r < 2 ^ wide
theorem pow_le24 {w : Nat} (h : w ≤ 24) : 2 ^ w ≤ 16777216 := Nat.le_trans (Nat.pow_le_pow_right (by decide) h) (by decide)
theorem shl_one (w : Nat) (h : w ≤ 1000) (G : GH) : fShl (.val (.int 1)) (.val (.int w)) G = .ok (.val (.int (pw w))) G := by
  rw [fShl_int (by omega) ?_]
  · unfold pw
    simp
  · have : Builtin.Int.intBits (1 : Int) ≤ 1 := by decide
    rw [show (2 : Int) ^ 27 = 134217728 from rfl]
    omega
theorem is_mask_good {wide : Nat} {rows : List Nat} (g : GoodM wide rows) (G : GH) : m_is_mask [mk wide rows] G = .ok (.bl true) G := by
  refine mDef_ok [some (mk wide rows), none] ?_
  unfold b_is_mask
  have hw0 := g.w0
  have hw1 := g.w1
  have hh0 := g.h0
  have hh1 := g.h1
  have e1 := among_eq (okW_int G wide) 1 24
  rw [show amongW 1 24 (.int wide) = true by simp [amongW]; omega] at e1
  rw [seq_no (G1 := G) (by simp [mk, e1])]
  have i1 : (1 : Int) ≤ rows.length := by omega
  have i2 : (rows.length : Int) ≤ 24 := by omega
  rw [seq_no (G1 := G) (by simp [mk, i1, i2])]
  have hs := shl_one wide (by omega)
  have hc : compF [] (gN 1) mYes (mCall m_is_among [] (mCons (mVar 1) (mCons (mC (.int 0)) (mCons (mBin fSub (mBin fShl (mC (.int 1)) (mBin fIx (mVar 0) (mC (.int 0)))) (mC (.int 1))) mNil)))) [some (mk wide rows), none] (nW rows) G = .ok ((nW rows).map fun _ => W.bl true) G := by
    refine compF_map (fun _ => .bl true) still_nil fun w hw => ⟨_, rfl, rfl, ?_⟩
    obtain ⟨r, hr, rfl⟩ := List.mem_map.mp hw
    have hlt := g.row r hr
    have e2 := among_eq (okW_int G r) 0 (pw wide - 1)
    rw [show amongW 0 (pw wide - 1) (.int r) = true by
      unfold pw
      simp only [amongW, Bool.and_eq_true, decide_eq_true_eq]
      omega] at e2
    simp [mk, hs, e2]
  have hall := fAll_yes (nW rows) G
  have hl : (nW rows).length ≤ 16777216 := by rw [List.length_map]; omega
  generalize (nW rows).map (fun _ => W.bl true) = L at *
  unfold mk at hc ⊢
  generalize nW rows = ws at *
  simp [mComp_at, miA_at, wipeS, hl, hc, hall]
/-- a walk over the list of masks that finds nothing wrong -/
theorem need_masks_good {G : GH} {n : Nat} {wide : Nat} {rows0 : List Nat} {ms : List (List Nat)} (h : G[n]? = some (.lst (ms.map (mk wide)))) (h0 : ms[0]? = some rows0) (hg : ∀ rows ∈ ms, GoodM wide rows ∧ rows.length = rows0.length) : m_need_masks [.loc n] G = .ok .non G := by
  have hit := iterA_at h
  obtain ⟨s, hw1⟩ : ∃ s, sFor (miA (mVar 0)) (gN 1) (sIf (mNot (mTru (mCall m_is_mask [] (mCons (mVar 1) mNil)))) (sRaise 5) sNext) [some (.loc n), none] G = .nx [some (.loc n), s] G := by
    have hmi : miA (mVar 0) [some (.loc n), none] G = .ok (ms.map (mk wide), [(n, ms.map (mk wide))]) G := by
      generalize ms.map (mk wide) = ws at *
      simp [miA_at, hit]
    rw [sFor_at, hmi, R.toS_ok]
    refine forL_run (I := fun _ τ G' => G' = G ∧ ∃ s, τ = [some (.loc n), s]) (E := fun r => ∃ s, r = .nx [some (.loc n), s] G) (τ := [some (.loc n), none]) (G := G) ⟨rfl, _, rfl⟩ ?_ ?_
    · rintro i w τ G' hw ⟨rfl, s, rfl⟩
      obtain ⟨rows, hr, rfl⟩ := List.mem_map.mp (List.mem_of_getElem? hw)
      refine ⟨still_of h, _, rfl, ?_⟩
      have e := is_mask_good (hg rows hr).1 G'
      show Turn _ _ (sIf _ _ _ [some (.loc n), some (mk wide rows)] G')
      rw [if_no (G1 := G') (by
        generalize mk wide rows = m at *
        simp [e])]
      exact ⟨rfl, _, rfl⟩
    · rintro τ G' ⟨rfl, s, rfl⟩
      exact ⟨still_of h, s, rfl⟩
  have hix : fIx (.val (.loc n)) (.val (.int 0)) G = .ok (.val (mk wide rows0)) G := fIx_loc (k := 0) h (by rw [List.getElem?_map, h0]; rfl)
  obtain ⟨s2, hw2⟩ : ∃ s2, sFor (miA (mVar 0)) (gN 1) (sIf (mOr (mB (mBin fNe (mBin fIx (mVar 1) (mC (.int 0))) (mBin fIx (mBin fIx (mVar 0) (mC (.int 0))) (mC (.int 0))))) (mB (mBin fNe (mBi fLen (mConsT (mBin fIx (mVar 1) (mC (.int 1))) mNilT)) (mBi fLen (mConsT (mBin fIx (mBin fIx (mVar 0) (mC (.int 0))) (mC (.int 1))) mNilT))))) (sRaise 3) sNext) [some (.loc n), s] G = .nx [some (.loc n), s2] G := by
    have hmi : miA (mVar 0) [some (.loc n), s] G = .ok (ms.map (mk wide), [(n, ms.map (mk wide))]) G := by
      generalize ms.map (mk wide) = ws at *
      simp [miA_at, hit]
    rw [sFor_at, hmi, R.toS_ok]
    refine forL_run (I := fun _ τ G' => G' = G ∧ ∃ s, τ = [some (.loc n), s]) (E := fun r => ∃ s, r = .nx [some (.loc n), s] G) (τ := [some (.loc n), s]) (G := G) ⟨rfl, _, rfl⟩ ?_ ?_
    · rintro i w τ G' hw ⟨rfl, s, rfl⟩
      obtain ⟨rows, hr, rfl⟩ := List.mem_map.mp (List.mem_of_getElem? hw)
      refine ⟨still_of h, _, rfl, ?_⟩
      have hl := (hg rows hr).2
      show Turn _ _ (sIf _ _ _ [some (.loc n), some (mk wide rows)] G')
      rw [if_no (G1 := G') (by
        simp [hix, mk, hl])]
      exact ⟨rfl, _, rfl⟩
    · rintro τ G' ⟨rfl, s, rfl⟩
      exact ⟨still_of h, s, rfl⟩
  refine mDef_nx [some (.loc n), none] (τ1 := [some (.loc n), s2]) ?_
  unfold b_need_masks
  rw [seq_nx hw1]
  exact hw2
/-- the first one is none -/
theorem need_masks_bad {G : GH} {n : Nat} {w : W} {ws : List W} (h : G[n]? = some (.lst (w :: ws))) (hb : m_is_mask [w] G = .ok (.bl false) G) : m_need_masks [.loc n] G = .ex 5 [] G := by
  have hit := iterA_at h
  refine mDef_ex [some (.loc n), none] (τ1 := [some (.loc n), some w]) ?_
  unfold b_need_masks
  refine seq_ex ?_
  have hmi : miA (mVar 0) [some (.loc n), none] G = .ok (w :: ws, [(n, w :: ws)]) G := by
    simp [miA_at, hit]
  rw [sFor_at, hmi, R.toS_ok]
  have hst : still [(n, w :: ws)] G = true := still_of h
  show forL [(n, w :: ws)] _ _ (w :: ws) _ _ = _
  unfold forL
  rw [hst, if_pos rfl]
  have e : (sIf (mNot (mTru (mCall m_is_mask [] (mCons (mVar 1) mNil)))) (sRaise 5) sNext) [some (.loc n), some w] G = .ex 5 [] [some (.loc n), some w] G := by
    rw [if_yes (G1 := G) (by simp [hb])]
    rfl
  show (match (sIf (mNot (mTru (mCall m_is_mask [] (mCons (mVar 1) mNil)))) (sRaise 5) sNext) [some (.loc n), some w] G with
    | .nx τ2 G2 => _
    | .ct τ2 G2 => _
    | .bk τ2 G2 => _
    | .rt w G2 => _
    | .ex e fs τ2 G2 => _
    | .bad => _) = _
  rw [e]
open N5
theorem shr_nat (n i : Nat) : (n : Int) / 2 ^ (i : Int).toNat = ((n / 2 ^ i : Nat) : Int) := by
  simp
theorem bit_one (n i : Nat) : Builtin.bitAnd ((n : Int) / 2 ^ i) 1 = if n.testBit i then 1 else 0 := by
  have e : (n : Int) / 2 ^ i = ((n / 2 ^ i : Nat) : Int) := by simp
  rw [bitAnd_m1, e, tb]
  by_cases h : n / 2 ^ i % 2 = 1
  · rw [if_pos (by simpa using h)]; omega
  · rw [if_neg (by simpa using h)]; omega
theorem bit_at_eq (n i : Nat) (G : GH) : m_bit_at [.int n, .int i] G = .ok (.bl (n.testBit i)) G := by
  refine mDef_ok [some (.int n), some (.int i)] ?_
  unfold b_bit_at
  simp [fShr_int, bit_one]
def plW (k n : Nat) : List W := (plB k n).map fun (i : Nat) => W.int i
theorem plW_snoc (k n : Nat) : plW (k + 1) n = plW k n ++ if n.testBit k then [.int k] else [] := by
  unfold plW
  rw [plB_snoc, List.map_append]
  cases n.testBit k <;> simp
theorem plW_len (k n : Nat) : (plW k n).length ≤ k := by
  unfold plW
  rw [List.length_map]
  exact plB_len_le k n
theorem plW_eq {n p k : Nat} (h : n < 2 ^ p) (hk : p ≤ k) : plW k n = plW p n := by
  unfold plW
  rw [plB_eq h hk]
end Lk08
set_option Elab.async false
set_option linter.all false
set_option maxRecDepth 100000
set_option maxHeartbeats 4000000
namespace Lk08
open PySem PySem.Spec PyProof.Rows L2 Sy
open N7
/-! drawn masks -/
theorem pw_val (w : Nat) : pw w = ((2 ^ w : Nat) : Int) := rfl
theorem mask_eq {ns : List Int} (hb : ∀ z ∈ ns, Builtin.Int.intBits z ≤ 1048576) (at_ wide high : Nat) (ha : at_ ≤ 100) (w0 : 0 < wide) (w1 : wide ≤ 24) (h0 : 0 < high) (h1 : high ≤ 24) (G : GH) :
    ∃ rows xs, GoodM wide rows ∧ rows.length = high ∧ m_law_mask [scr ns, .int at_, .int wide, .int high] G = .ok (mk wide rows) (G ++ xs) := by
  suffices hbod : ∃ rows xs, GoodM wide rows ∧ rows.length = high ∧ b_law_mask [some (scr ns), some (.int at_), some (.int wide), some (.int high), none, none, none, none, none] G = .rt (mk wide rows) (G ++ xs) by
    obtain ⟨rows, xs, g, hl, e⟩ := hbod
    exact ⟨rows, xs, g, hl, mDef_ok _ e⟩
  unfold b_law_mask
  have hp := power_pw wide (by omega)
  have hpos := pw_pos wide
  rw [seq_nx (τ1 := [some (scr ns), some (.int at_), some (.int wide), some (.int high), none, none, none, some (.loc G.length), none]) (G1 := G ++ [.lst []]) (by simp)]
  rw [seq_nx (τ1 := [some (scr ns), some (.int at_), some (.int wide), some (.int high), some (.int (pw wide - 1)), none, none, some (.loc G.length), none]) (G1 := G ++ [.lst []]) (by simp [hp])]
  rw [sSeq_at, sFor_at, show miR (mCons (mVar 3) mNil) [some (scr ns), some (.int at_), some (.int wide), some (.int high), some (.int (pw wide - 1)), none, none, some (.loc G.length), none] (G ++ [.lst []]) = .ok (rangeW 0 high, []) (G ++ [.lst []]) by
    have := iterR_nat high (by omega) (G ++ [.lst []])
    simp [miR_at, this], R.toS_ok]
  refine forL_run (I := fun i τ G' => ∃ s5 s6 s8 rows, rows.length = i ∧ (∀ r ∈ rows, r < 2 ^ wide) ∧ τ = [some (scr ns), some (.int at_), some (.int wide), some (.int high), some (.int (pw wide - 1)), s5, s6, some (.loc G.length), s8] ∧ G' = G ++ [.lst (nW rows)])
    (E := fun r => ∃ rows xs, GoodM wide rows ∧ rows.length = high ∧ r.andThen (sRet (mTup (mCons (mVar 2) (mCons (mBi fTuple (mConsT (mVar 7) mNilT)) mNil)))) = .rt (mk wide rows) (G ++ xs)) (src := []) (ws := rangeW 0 high)
    (τ := [some (scr ns), some (.int at_), some (.int wide), some (.int high), some (.int (pw wide - 1)), none, none, some (.loc G.length), none]) (G := G ++ [.lst []]) ⟨_, _, _, [], rfl, by simp, rfl, rfl⟩ ?_ ?_
  · rintro y w τ G' hw ⟨s5, s6, s8, rows, hl, hr, rfl, rfl⟩
    obtain ⟨hy, rfl⟩ := rangeW_get hw
    rw [Int.zero_add]
    refine ⟨still_nil, _, rfl, ?_⟩
    obtain ⟨r, hr0, hm⟩ := mixed_nat hb (at_ + y % 10) (by omega)
    have hm' : ∀ G, m_law_mixed [scr ns, .int ((at_ : Int) + (y : Int) % 10)] G = .ok (.int r) G := fun G => by
      have := hm G
      rwa [show ((at_ + y % 10 : Nat) : Int) = (at_ : Int) + (y : Int) % 10 by omega] at this
    obtain ⟨n, hn⟩ : ∃ n : Nat, (r : Int) + 977 * y * y = n := nat_of (Int.add_nonneg (by omega) (Int.mul_nonneg (Int.mul_nonneg (by decide) (by omega)) (by omega)))
    have hyy : (977 * (y : Int)) * y ≤ 977 * 24 * 24 := by
      have a1 : 977 * (y : Int) ≤ 977 * 24 := by omega
      exact Int.le_trans (Int.mul_le_mul_of_nonneg_right a1 (by omega)) (Int.mul_le_mul_of_nonneg_left (by omega) (by decide))
    have hn2 : (n : Int) < 100000000 := by omega
    have m1 : mulOk 977 (y : Int) = true := mulOk_of (a := 10) (b := 10) (by decide) (bits_small (by omega) (by omega)) (by decide)
    have m2 : mulOk (977 * (y : Int)) (y : Int) = true := mulOk_of (a := 30) (b := 10) (bits_small (by omega) (by omega)) (bits_small (by omega) (by omega)) (by decide)
    have m3 : mulOk (n : Int) 40692 = true := mulOk_of (a := 30) (b := 16) (bits_small (by omega) (by omega)) (by decide) (by decide)
    have m4 : mulOk (n : Int) 16807 = true := mulOk_of (a := 30) (b := 16) (bits_small (by omega) (by omega)) (by decide) (by decide)
    -- the row's number
    have modw : ∀ z : Int, ∃ q : Nat, z % pw wide = q ∧ q < 2 ^ wide := fun z => by
      have e1 := Int.emod_nonneg z (show pw wide ≠ 0 by omega)
      have e2 := Int.emod_lt_of_pos z hpos
      obtain ⟨q, hq⟩ := nat_of e1
      refine ⟨q, hq, ?_⟩
      rw [hq, pw_val] at e2
      exact Int.ofNat_lt.mp e2
    obtain ⟨q1, hq1, hq1l⟩ := modw ((n : Int) * 40692 % 1000000007)
    obtain ⟨q2, hq2, hq2l⟩ := modw ((n : Int) * 16807)
    have hfull : pw wide - 1 + 1 = pw wide := by omega
    have hfm : ∀ (z : Int) (G : GH), fMod (.val (.int z)) (.val (.int (pw wide))) G = .ok (.val (.int (z % pw wide))) G := fun z G => fMod_int hpos
    obtain ⟨f, hf, hfl⟩ : ∃ f : Nat, pw wide - 1 = f ∧ f < 2 ^ wide := by
      obtain ⟨f, hf⟩ := nat_of (show 0 ≤ pw wide - 1 by omega)
      refine ⟨f, hf, ?_⟩
      have : (f : Int) < ((2 ^ wide : Nat) : Int) := by rw [← pw_val]; omega
      exact Int.ofNat_lt.mp this
    obtain ⟨k, hk, hk6⟩ := mod_nat ((n : Int) / 3) (m := 6) (by decide)
    have hk' : (n : Int) / 3 % 6 = k := hk
    obtain ⟨v, hv, hpick⟩ : ∃ v : Nat, v < 2 ^ wide ∧ ∀ G, fIx (.tmp [.int q1, .int 0, .int f, .int q2, .int q1, .int q1]) (.val (.int k)) G = .ok (.val (.int v)) G := by
      have : k = 0 ∨ k = 1 ∨ k = 2 ∨ k = 3 ∨ k = 4 ∨ k = 5 := by omega
      rcases this with rfl | rfl | rfl | rfl | rfl | rfl
      · exact ⟨q1, hq1l, fun G => fIx_tmp (k := 0) rfl⟩
      · exact ⟨0, Nat.pow_pos (by decide), fun G => fIx_tmp (k := 1) rfl⟩
      · exact ⟨f, hfl, fun G => fIx_tmp (k := 2) rfl⟩
      · exact ⟨q2, hq2l, fun G => fIx_tmp (k := 3) rfl⟩
      · exact ⟨q1, hq1l, fun G => fIx_tmp (k := 4) rfl⟩
      · exact ⟨q1, hq1l, fun G => fIx_tmp (k := 5) rfl⟩
    have e3 := isLst_ok (G := G ++ [.lst (nW rows)]) (n := G.length) (us := nW rows) (by simp)
    have e4 := appOk (G := G ++ [.lst (nW rows)]) (n := G.length) (us := nW rows) (w := .int v) (by simp) (by rw [List.length_map]; omega)
    rw [set_top0, List.set_cons_zero] at e4
    have hfull2 : (f : Int) + 1 = pw wide := by omega
    have l3 : Nat.log2 3 < 9000 := by decide
    show Turn _ _ (sSeq _ _ [some (scr ns), some (.int at_), some (.int wide), some (.int high), some (.int (pw wide - 1)), s5, s6, some (.loc G.length), some (.int y)] _)
    generalize hus : nW rows = us at *
    generalize pw wide - 1 = F at *
    generalize pw wide = W2 at *
    rw [seq_nx (τ1 := [some (scr ns), some (.int at_), some (.int wide), some (.int high), some (.int F), some (.int n), s6, some (.loc G.length), some (.int y)]) (G1 := G ++ [.lst us]) (by simp [hm', fMul_int, fMod_int, m1, m2, hn])]
    rw [seq_nx (τ1 := [some (scr ns), some (.int at_), some (.int wide), some (.int high), some (.int F), some (.int n), some (.int q1), some (.loc G.length), some (.int y)]) (G1 := G ++ [.lst us]) (by simp [fMul_int, fMod_int, m3, hfull, hfm, hq1])]
    have hlast : (sDrop (mMtF isLst fApp (mVar 7) (mCons (mBin fIx (mLst (mCons (mVar 6) (mCons (mC (.int 0)) (mCons (mVar 4) (mCons (mBin fMod (mBin fMul (mVar 5) (mC (.int 16807))) (mBin fAdd (mVar 4) (mC (.int 1)))) (mCons (mVar 6) (mCons (mVar 6) mNil))))))) (mBin fMod (mBin fFdiv (mVar 5) (mC (.int 3))) (mC (.int 6)))) mNil)))
        [some (scr ns), some (.int at_), some (.int wide), some (.int high), some (.int F), some (.int n), some (.int q1), some (.loc G.length), some (.int y)] (G ++ [.lst us]) = .nx [some (scr ns), some (.int at_), some (.int wide), some (.int high), some (.int F), some (.int n), some (.int q1), some (.loc G.length), some (.int y)] (G ++ [.lst (us ++ [.int v])]) := by
      simp [fMul_int, fMod_int, fFdiv_int, m4, hfull2, hfm, hq2, hf, l3, hk', hpick, e3, e4]
    rw [hlast]
    refine ⟨_, _, _, rows ++ [v], by simp [hl], fun x hx => ?_, rfl, by rw [← hus]; simp [nW]⟩
    rcases List.mem_append.mp hx with hx | hx
    · exact hr x hx
    · rw [List.mem_singleton] at hx
      subst hx
      exact hv
  · rintro τ G' ⟨s5, s6, s8, rows, hl, hr, rfl, rfl⟩
    rw [rangeW_len] at hl
    refine ⟨still_nil, rows, [.lst (nW rows)], ⟨w0, w1, by omega, by omega, hr⟩, hl, ?_⟩
    have e6 := fTuple_loc (G := G ++ [.lst (nW rows)]) (n := G.length) (ws := nW rows) (by simp)
    unfold mk
    generalize nW rows = L at *
    simp [e6]
/-! places -/
abbrev pW (ps : Pl) : List W := ps.map fun p => .tup [.int (p.1 : Nat), .int (p.2 : Nat)]
theorem mod2n (r x : Nat) : ((r / 2 ^ x : Nat) : Int) % 2 = if r.testBit x then 1 else 0 := by
  rw [Nat.testBit_eq_decide_div_mod_eq]
  by_cases h : r / 2 ^ x % 2 = 1
  · rw [if_pos (by simpa using h)]; omega
  · rw [if_neg (by simpa using h)]; omega
theorem half2n (r x : Nat) : ((r / 2 ^ x : Nat) : Int) / 2 = ((r / 2 ^ (x + 1) : Nat) : Int) := by
  rw [Nat.pow_succ, ← Nat.div_div_eq_div_mul]; omega
theorem rowP_len (wide y r : Nat) : (rowP wide y r).length ≤ wide := by
  unfold rowP
  rw [List.length_map]
  have := List.length_filter_le r.testBit (List.range wide)
  rwa [List.length_range] at this
theorem rowP_succ (wide y r : Nat) : rowP (wide + 1) y r = rowP wide y r ++ if r.testBit wide then [(wide, y)] else [] := by
  unfold rowP
  rw [List.range_succ, List.filter_append, List.map_append]
  congr 1
  cases e : r.testBit wide <;> simp [e]
theorem placesP_len (wide : Nat) (rows : List Nat) : ∀ k, (placesP wide rows k).length ≤ wide * k := by
  intro k
  induction k with
  | zero => simp [placesP]
  | succ k ih =>
    rw [placesP_succ, List.length_append, Nat.mul_succ]
    have := rowP_len wide k (rows.getD k 0)
    omega
theorem places_eq {wide : Nat} {rows : List Nat} (g : GoodM wide rows) (G : GH) : m_law_places [mk wide rows] G = .ok (.loc G.length) (G ++ [.lst (pW (placesP wide rows rows.length))]) := by
  refine mDef_ok [some (mk wide rows), none, none, none, none] ?_
  unfold b_law_places
  have hw1 := g.w1
  have hh1 := g.h1
  rw [seq_nx (τ1 := [some (mk wide rows), some (.loc G.length), none, none, none]) (G1 := G ++ [.lst []]) (by simp)]
  have hmi : ∀ s2 s3 s4 G, miR (mCons (mBi fLen (mConsT (mBin fIx (mVar 0) (mC (.int 1))) mNilT)) mNil) [some (mk wide rows), some (.loc s4), s2, s3, none] G = .ok (rangeW 0 rows.length, []) G := fun s2 s3 s4 G => by
    have := iterR_nat rows.length (by omega) G
    simp [miR_at, mk, this]
  have hmi2 : ∀ s2 s3 s4 L G, miR (mCons (mBin fIx (mVar 0) (mC (.int 0))) mNil) [some (mk wide rows), some (.loc L), s2, s3, s4] G = .ok (rangeW 0 wide, []) G := fun s2 s3 s4 L G => by
    have := iterR_nat wide (by omega) G
    simp [miR_at, mk, this]
  rw [sSeq_at, sFor_at, hmi, R.toS_ok]
  refine forL_run (I := fun i τ G' => ∃ s2 s3 s4, τ = [some (mk wide rows), some (.loc G.length), s2, s3, s4] ∧ G' = G ++ [.lst (pW (placesP wide rows i))]) (E := fun r => r.andThen (sRet (mVar 1)) = .rt (.loc G.length) (G ++ [.lst (pW (placesP wide rows rows.length))])) (src := []) (ws := rangeW 0 rows.length)
    (τ := [some (mk wide rows), some (.loc G.length), none, none, none]) (G := G ++ [.lst []]) ⟨_, _, _, rfl, rfl⟩ ?_ ?_
  · rintro y w τ G' hw ⟨s2, s3, s4, rfl, rfl⟩
    obtain ⟨hy, rfl⟩ := rangeW_get hw
    rw [Int.zero_add]
    refine ⟨still_nil, _, rfl, ?_⟩
    have hrow : rows.getD y 0 = rows[y] := by rw [List.getD_eq_getElem?_getD, List.getElem?_eq_getElem hy]; rfl
    have hix : ∀ G, fIx (.val (.tup (nW rows))) (.val (.int y)) G = .ok (.val (.int (rows[y] : Nat))) G := fun G => fIx_tup (by rw [List.getElem?_map, List.getElem?_eq_getElem hy]; rfl)
    rw [placesP_succ, hrow]
    have hpl := placesP_len wide rows y
    have hwy : wide * y ≤ 24 * 24 := Nat.mul_le_mul hw1 (by omega)
    generalize placesP wide rows y = P at *
    generalize rows[y] = r at *
    show Turn _ _ (sSeq _ _ [some (mk wide rows), some (.loc G.length), s2, s3, some (.int y)] _)
    rw [seq_nx (τ1 := [some (mk wide rows), some (.loc G.length), some (.int (r : Nat)), s3, some (.int y)]) (G1 := G ++ [.lst (pW P)]) (by
      generalize pW P = us at *
      simp [mk, hix])]
    rw [sFor_at, hmi2, R.toS_ok]
    refine forL_run (I := fun x τ G' => ∃ s3, τ = [some (mk wide rows), some (.loc G.length), some (.int (r / 2 ^ x : Nat)), s3, some (.int y)] ∧ G' = G ++ [.lst (pW (P ++ rowP x y r))]) (E := fun q => Turn (fun τ G' => ∃ s2 s3 s4, τ = [some (mk wide rows), some (.loc G.length), s2, s3, s4] ∧ G' = G ++ [.lst (pW (P ++ rowP wide y r))]) (fun r => r.andThen (sRet (mVar 1)) = .rt (.loc G.length) (G ++ [.lst (pW (placesP wide rows rows.length))])) q) (src := []) (ws := rangeW 0 wide)
      (τ := [some (mk wide rows), some (.loc G.length), some (.int (r : Nat)), s3, some (.int y)]) (G := G ++ [.lst (pW P)]) ⟨s3, by rw [Nat.pow_zero, Nat.div_one], by simp [rowP]⟩ ?_ ?_
    · rintro x w τ G' hw ⟨s3, rfl, rfl⟩
      obtain ⟨hx, rfl⟩ := rangeW_get hw
      rw [Int.zero_add]
      refine ⟨still_nil, _, rfl, ?_⟩
      have hrl := rowP_len x y r
      have m2 := mod2n r x
      have h2 := half2n r x
      have hsucc : pW (P ++ rowP (x + 1) y r) = pW (P ++ rowP x y r) ++ if r.testBit x then [.tup [.int x, .int y]] else [] := by
        rw [rowP_succ, ← List.append_assoc, pW, List.map_append]
        cases r.testBit x <;> rfl
      have e3 := isLst_ok (G := G ++ [.lst (pW (P ++ rowP x y r))]) (n := G.length) (us := pW (P ++ rowP x y r)) (by simp)
      have e4 := appOk (G := G ++ [.lst (pW (P ++ rowP x y r))]) (n := G.length) (us := pW (P ++ rowP x y r)) (w := .tup [.int x, .int y]) (by simp) (by rw [List.length_map, List.length_append]; omega)
      rw [set_top0, List.set_cons_zero] at e4
      rw [hsucc]
      show Turn _ _ (sSeq _ _ [some (mk wide rows), some (.loc G.length), some (.int (r / 2 ^ x : Nat)), some (.int x), some (.int y)] _)
      generalize pW (P ++ rowP x y r) = us at *
      generalize ((r / 2 ^ x : Nat) : Int) = q at *
      generalize ((r / 2 ^ (x + 1) : Nat) : Int) = q2 at *
      generalize mk wide rows = m at *
      have l2 : Nat.log2 2 < 9000 := by decide
      cases ht : r.testBit x with
      | true =>
        rw [ht, if_pos rfl] at m2
        rw [seq_nx (τ1 := [some m, some (.loc G.length), some (.int q), some (.int x), some (.int y)]) (G1 := G ++ [.lst (us ++ [.tup [.int x, .int y]])]) (by
          simp [fMod_int, m2, e3, e4])]
        rw [show sSet 2 (mBin fFdiv (mVar 2) (mC (.int 2))) [some m, some (.loc G.length), some (.int q), some (.int x), some (.int y)] (G ++ [.lst (us ++ [.tup [.int x, .int y]])]) = .nx [some m, some (.loc G.length), some (.int q2), some (.int x), some (.int y)] (G ++ [.lst (us ++ [.tup [.int x, .int y]])]) by simp [fFdiv_int, l2, h2]]
        exact ⟨_, rfl, rfl⟩
      | false =>
        rw [ht, if_neg Bool.false_ne_true] at m2
        rw [seq_no (G1 := G ++ [.lst us]) (by simp [fMod_int, m2])]
        rw [show sSet 2 (mBin fFdiv (mVar 2) (mC (.int 2))) [some m, some (.loc G.length), some (.int q), some (.int x), some (.int y)] (G ++ [.lst us]) = .nx [some m, some (.loc G.length), some (.int q2), some (.int x), some (.int y)] (G ++ [.lst us]) by simp [fFdiv_int, l2, h2]]
        exact ⟨_, rfl, by simp⟩
    · rintro τ G' ⟨s3, rfl, rfl⟩
      rw [rangeW_len]
      exact ⟨still_nil, _, _, _, rfl, rfl⟩
  · rintro τ G' ⟨s2, s3, s4, rfl, rfl⟩
    rw [rangeW_len]
    exact ⟨still_nil, by simp⟩
open N7
theorem mk_dat (wide : Nat) (rows : List Nat) (G : GH) : toDT G (.val (mk wide rows)) = some (.tuple [.int wide, .tuple (rows.map fun (r : Nat) => PyData.int r)]) := by
  have e : mapO (toD 7 G) (nW rows) = some (rows.map fun (r : Nat) => PyData.int r) := by
    have := mapO_ints 6 G (rows.map fun (r : Nat) => (r : Int))
    rw [List.map_map, List.map_map] at this
    exact this
  simp [e]
theorem noDict_mk (wide : Nat) (rows : List Nat) : noDict (.tuple [.int wide, .tuple (rows.map fun (r : Nat) => PyData.int r)]) = true := by
  have e : noDictA (rows.map fun (r : Nat) => PyData.int r) = true := by
    induction rows with
    | nil => rfl
    | cons r rows ih => rw [List.map_cons, noDictA, ih]; rfl
  simp [noDict, noDictA, e]
theorem mk_ne (wide : Nat) (rows : List Nat) (G : GH) : fNe (.val (mk wide rows)) (.val (mk wide rows)) G = .ok (.val (.bl false)) G := ne_same (mk_dat wide rows G) (mk_dat wide rows G) (noDict_mk wide rows)
theorem same_mask_eq (wide : Nat) (rows : List Nat) (hl : rows.length ≤ 1000) (G : GH) : m_law_same_mask [mk wide rows, mk wide rows] G = .ok (.bl true) G := by
  refine mDef_ok [some (mk wide rows), some (mk wide rows), none] ?_
  unfold b_law_same_mask
  have e1 := mk_ne wide rows G
  have hc : compF [] (gN 2) mYes (mCall m_law_whole [] (mCons (mVar 2) mNil)) [some (mk wide rows), some (mk wide rows), none] (nW rows) G = .ok ((nW rows).map fun _ => W.bl true) G := by
    refine compF_map (fun _ => .bl true) still_nil fun w hw => ⟨_, rfl, rfl, ?_⟩
    obtain ⟨r, hr, rfl⟩ := List.mem_map.mp hw
    have := whole_int r
    simp [this]
  have hall := fAll_yes (nW rows) G
  have hl2 : (nW rows).length ≤ 16777216 := by rw [List.length_map]; omega
  have hwh := whole_int wide
  generalize (nW rows).map (fun _ => W.bl true) = L at *
  unfold mk at *
  generalize nW rows = ws at *
  rw [seq_no (G1 := G) (by simp [e1])]
  simp [hwh, mComp_at, miA_at, wipeS, hl2, hc, hall]
/-! masks by places -/
theorem sPut_ok {mo mi m : M T} {τ : Sl} {G G1 G2 G3 : GH} {w : W} {n k : Nat} {us : List W} (hm : (m τ G).bind force = .ok w G1) (ho : mo τ G1 = .ok (.val (.loc n)) G2) (hi : mi τ G2 = .ok (.val (.int k)) G3) (hu : G3[n]? = some (.lst us)) (hk : k < us.length) :
    sPut mo mi m τ G = .nx τ (G3.set n (.lst (us.set k w))) := by
  unfold sPut
  have e : ixN us.length (k : Int) = some k := by
    unfold ixN
    rw [if_pos (by omega), if_pos (by omega)]; rfl
  have hm' : mF m τ G = .ok w G1 := hm
  rw [hm']
  simp only [R.toS_ok, ho, hi, lstAt_loc, hu, Option.bind_some, wr_lst, Option.map_some, e]
theorem rowsOf_len (ps : Pl) (high : Nat) : (rowsOf ps high).length = high := by simp [rowsOf]
theorem rowsOf_get {ps : Pl} {high y : Nat} (h : y < high) : (rowsOf ps high)[y]? = some (sumAt ps y) := by
  unfold rowsOf
  rw [List.getElem?_map, List.getElem?_range h]; rfl
theorem sumAt_snoc (ps : Pl) (x y y' : Nat) : sumAt (ps ++ [(x, y)]) y' = sumAt ps y' + if y = y' then 2 ^ x else 0 := by
  rw [sumAt_app]
  congr 1
  unfold sumAt
  by_cases h : y = y'
  · simp [h]
  · simp [h]
theorem rowsOf_snoc {ps : Pl} {high x y : Nat} (h : y < high) : rowsOf (ps ++ [(x, y)]) high = (rowsOf ps high).set y (sumAt ps y + 2 ^ x) := by
  apply List.ext_getElem?
  intro j
  by_cases hj : j < high
  · rw [rowsOf_get hj, sumAt_snoc]
    by_cases e : y = j
    · subst e
      rw [if_pos rfl, List.getElem?_set_self (by rw [rowsOf_len]; exact hj)]
    · rw [if_neg e, Nat.add_zero, List.getElem?_set_ne e, rowsOf_get hj]
  · rw [List.getElem?_eq_none (by rw [rowsOf_len]; omega), List.getElem?_eq_none (by rw [List.length_set, rowsOf_len]; omega)]
theorem mask_by_eq {G : GH} {L wide high : Nat} {ps : Pl} (h : G[L]? = some (.lst (pW ps))) (hp : ∀ p ∈ ps, p.1 ≤ 200 ∧ p.2 < high) (h1 : high ≤ 24) : ∃ xs, m_law_mask_by [.loc L, .int wide, .int high] G = .ok (mk wide (rowsOf ps high)) (G ++ xs) := by
  refine ⟨[.lst (nW (rowsOf ps high))], mDef_ok [some (.loc L), some (.int wide), some (.int high), none, none, none] ?_⟩
  unfold b_law_mask_by
  have hz : repW [.int 0] high = nW (rowsOf [] high) := by
    have e : rowsOf [] high = List.replicate high 0 := by
      unfold rowsOf
      rw [List.eq_replicate_iff]
      refine ⟨by simp, fun b hb => ?_⟩
      obtain ⟨y, _, rfl⟩ := List.mem_map.mp hb
      rfl
    rw [e]
    unfold repW nW
    rw [List.map_replicate]
    clear e
    clear h1 hp h
    induction high with
    | zero => rfl
    | succ n ih => rw [List.replicate_succ, List.flatten_cons, ih, List.replicate_succ]; rfl
  have hmul : fMul (.tmp [.int 0]) (.val (.int high)) G = .ok (.tmp (nW (rowsOf [] high))) G := by
    unfold fMul
    have i1 : (-(2 ^ 63) : Int) ≤ high := by
      have : (-(2 ^ 63) : Int) ≤ 0 := by decide
      omega
    have i2 : (high : Int) < 2 ^ 63 := by
      have : (24 : Int) < 2 ^ 63 := by decide
      omega
    simp only [wrl_tmp, decide_eq_true i1, decide_eq_true i2, Int.toNat_natCast, List.length_singleton, Nat.one_mul, decide_eq_true (show high ≤ 16777216 by omega), Bool.and_self, if_true, hz]
  rw [seq_nx (τ1 := [some (.loc L), some (.int wide), some (.int high), some (.loc G.length), none, none]) (G1 := G ++ [.lst (nW (rowsOf [] high))]) (by
    generalize nW (rowsOf [] high) = us at *
    simp [hmul])]
  have hLl : L < G.length := (List.getElem?_eq_some_iff.mp h).1
  have hmi : miA (mVar 0) [some (.loc L), some (.int wide), some (.int high), some (.loc G.length), none, none] (G ++ [.lst (nW (rowsOf [] high))]) = .ok (pW ps, [(L, pW ps)]) (G ++ [.lst (nW (rowsOf [] high))]) := by
    have := iterA_at (get_mono h [.lst (nW (rowsOf [] high))])
    generalize nW (rowsOf [] high) = us at *
    generalize pW ps = ws at *
    simp [miA_at, this]
  rw [sSeq_at, sFor_at, hmi, R.toS_ok]
  refine forL_run (I := fun i τ G' => ∃ s4 s5, τ = [some (.loc L), some (.int wide), some (.int high), some (.loc G.length), s4, s5] ∧ G' = G ++ [.lst (nW (rowsOf (ps.take i) high))]) (E := fun r => r.andThen (sRet (mTup (mCons (mVar 1) (mCons (mBi fTuple (mConsT (mVar 3) mNilT)) mNil)))) = .rt (mk wide (rowsOf ps high)) (G ++ [.lst (nW (rowsOf ps high))])) (src := [(L, pW ps)]) (ws := pW ps)
    (τ := [some (.loc L), some (.int wide), some (.int high), some (.loc G.length), none, none]) (G := G ++ [.lst (nW (rowsOf [] high))]) ⟨none, none, rfl, rfl⟩ ?_ ?_
  · rintro i w τ G' hw ⟨s4, s5, rfl, rfl⟩
    rw [List.getElem?_map] at hw
    cases ep : ps[i]? with
    | none => rw [ep] at hw; cases hw
    | some p =>
      rw [ep] at hw
      cases hw
      obtain ⟨x, y⟩ := p
      obtain ⟨hx, hy⟩ := hp (x, y) (List.mem_of_getElem? ep)
      refine ⟨still_of (get_mono h _), _, rfl, ?_⟩
      have hpx := power_pw x hx
      have hget : (nW (rowsOf (ps.take i) high))[y]? = some (.int (sumAt (ps.take i) y : Nat)) := by rw [List.getElem?_map, rowsOf_get hy]; rfl
      have hix : fIx (.val (.loc G.length)) (.val (.int y)) (G ++ [.lst (nW (rowsOf (ps.take i) high))]) = .ok (.val (.int (sumAt (ps.take i) y : Nat))) (G ++ [.lst (nW (rowsOf (ps.take i) high))]) := fIx_loc (by simp) hget
      have hnew : nW (rowsOf (ps.take (i + 1)) high) = (nW (rowsOf (ps.take i) high)).set y (.int ((sumAt (ps.take i) y : Nat) + pw x)) := by
        rw [List.take_add_one, ep, show (some (x, y)).toList = [(x, y)] from rfl, rowsOf_snoc hy, nW, List.map_set]
        congr 2
      have hlen : (nW (rowsOf (ps.take i) high)).length = high := by rw [List.length_map, rowsOf_len]
      have hput := sPut_ok (mo := mVar 3) (mi := mVar 5) (m := mBin fAdd (mBin fIx (mVar 3) (mVar 5)) (mCall m_law_power [] (mCons (mVar 4) mNil))) (τ := [some (.loc L), some (.int wide), some (.int high), some (.loc G.length), some (.int x), some (.int y)]) (G := G ++ [.lst (nW (rowsOf (ps.take i) high))]) (G1 := G ++ [.lst (nW (rowsOf (ps.take i) high))]) (G2 := G ++ [.lst (nW (rowsOf (ps.take i) high))]) (G3 := G ++ [.lst (nW (rowsOf (ps.take i) high))])
        (w := .int ((sumAt (ps.take i) y : Nat) + pw x)) (n := G.length) (k := y) (us := nW (rowsOf (ps.take i) high)) (by
          generalize nW (rowsOf (ps.take i) high) = us at *
          simp [hix, hpx]) rfl rfl (by simp) (by rw [hlen]; exact hy)
      rw [set_top0, List.set_cons_zero, ← hnew] at hput
      show Turn _ _ (sPut _ _ _ [some (.loc L), some (.int wide), some (.int high), some (.loc G.length), some (.int x), some (.int y)] _)
      rw [hput]
      exact ⟨_, _, rfl, rfl⟩
  · rintro τ G' ⟨s4, s5, rfl, rfl⟩
    rw [show (pW ps).length = ps.length by simp, List.take_length]
    have e6 := fTuple_loc (G := G ++ [.lst (nW (rowsOf ps high))]) (n := G.length) (ws := nW (rowsOf ps high)) (by simp)
    refine ⟨still_of (get_mono h _), ?_⟩
    unfold mk
    generalize nW (rowsOf ps high) = us at *
    simp [e6]
end Lk08
set_option Elab.async false
set_option linter.all false
set_option maxRecDepth 100000
set_option maxHeartbeats 4000000
namespace Lk08
open PySem PySem.Spec PyProof.Rows L2 Sy
abbrev cellW : W → Bool := amongW 0 15
theorem is_cell_eq {G : GH} {w : W} (h : okW G w) : m_is_cell [w] G = .ok (.bl (cellW w)) G := by
  refine mDef_ok [some w] ?_
  unfold b_is_cell
  simp [among_eq h]
theorem are_cells_eq {G : GH} {n : Nat} {ws : List W} (h : G[n]? = some (.lst ws)) (hl : ws.length ≤ 16777216) (hw : ∀ w ∈ ws, okW G w) : m_are_cells [.loc n] G = .ok (.bl (ws.all cellW)) G := by
  refine mDef_ok [some (.loc n), none] ?_
  unfold b_are_cells
  have hc : compF [(n, ws)] (gN 1) mYes (mCall m_is_cell [] (mCons (mVar 1) mNil)) [some (.loc n), none] ws G = .ok (ws.map fun w => W.bl (cellW w)) G :=
    compF_map (fun w => .bl (cellW w)) (still_of h) fun w hw' => ⟨_, rfl, rfl, by simp [is_cell_eq (hw w hw')]⟩
  have hit := iterA_loc (G := G) (n := n) (ws := ws) (by simp [h])
  have hall := fAll_tmp (ws.map cellW) G
  rw [List.map_map] at hall
  have e : (ws.map fun w => W.bl (cellW w)) = ws.map (W.bl ∘ cellW) := rfl
  rw [e] at hc
  generalize ws.map (W.bl ∘ cellW) = L at hc hall
  simp [isi_lst_list h, mComp_at, miA_at, hit, wipeS, hl, hc, hall]
theorem cells_no_list {G : GH} {w : W} {a : String} (ht : tyOf G (.val w) = some a) (ha : subTy a "list" = some false) : m_are_cells [w] G = .ok (.bl false) G := by
  refine mDef_ok [some w, none] ?_
  unfold b_are_cells
  simp [isi_of ht ha]
/-! good pictures -/
structure Good (pic : List (List Int)) (wide : Nat) : Prop where
  h0 : 0 < pic.length
  h1 : pic.length ≤ 24
  w0 : 0 < wide
  w1 : wide ≤ 24
  row : ∀ r ∈ pic, r.length = wide
  cell : ∀ r ∈ pic, ∀ c ∈ r, 0 ≤ c ∧ c ≤ 15
theorem Good.first {pic : List (List Int)} {wide : Nat} (g : Good pic wide) : ∃ r, pic[0]? = some r ∧ r.length = wide := by
  have h := g.h0
  refine ⟨pic[0], List.getElem?_eq_getElem h, g.row _ (List.getElem_mem h)⟩
theorem fIx_loc0 {G : GH} {n : Nat} {ws : List W} {w : W} (h : G[n]? = some (.lst ws)) (hk : ws[0]? = some w) : fIx (.val (.loc n)) (.val (.int 0)) G = .ok (.val w) G := fIx_loc h hk
theorem is_picture_good {G : GH} {n : Nat} {ms : List Nat} {pic : List (List Int)} {wide : Nat} (h : RowsAt G n ms (pic.map iW)) (g : Good pic wide) : m_is_picture [.loc n] G = .ok (.bl true) G := by
  refine mDef_ok [some (.loc n), none] ?_
  unfold b_is_picture
  have hl : ms.length = pic.length := by rw [h.len, List.length_map]
  have h0 := g.h0
  have h1 := g.h1
  obtain ⟨r0, e0, l0⟩ := g.first
  obtain ⟨m0, f0, g0⟩ := paired_nth h.row (i := 0) (y := iW r0) (by rw [List.getElem?_map, e0]; rfl)
  have ht0 : (ms.map W.loc)[0]? = some (.loc m0) := by rw [List.getElem?_map, f0]; rfl
  have hix := fIx_loc0 h.top ht0
  have hlen0 : fLen [.val (.loc m0)] G = .ok (.val (.int wide)) G := by rw [fLen_loc g0, List.length_map, l0]
  have hlen : fLen [.val (.loc n)] G = .ok (.val (.int pic.length)) G := by rw [fLen_loc h.top, List.length_map, hl]
  have hit := iterA_at h.top
  have hc1 : compF [(n, ms.map W.loc)] (gN 1) mYes (mCall m_are_cells [] (mCons (mVar 1) mNil)) [some (.loc n), none] (ms.map W.loc) G = .ok ((ms.map W.loc).map fun _ => W.bl true) G := by
    refine compF_map (fun _ => .bl true) (still_of h.top) fun w hw => ⟨_, rfl, rfl, ?_⟩
    obtain ⟨m, hm, rfl⟩ := List.mem_map.mp hw
    obtain ⟨r, hr, e⟩ := paired_mem h.row m hm
    obtain ⟨is, his, rfl⟩ := List.mem_map.mp hr
    have hlr := g.row is his
    have hw1 := g.w1
    have := are_cells_eq e (by rw [List.length_map]; omega) (fun w hw => by obtain ⟨i, _, rfl⟩ := List.mem_map.mp hw; rfl)
    have ha : (iW is).all cellW = true := all_true fun w hw => by
      obtain ⟨i, hi, rfl⟩ := List.mem_map.mp hw
      have := g.cell is his i hi
      simp [cellW, amongW, this.1, this.2]
    rw [ha] at this
    simp [this]
  have hc2 : compF [(n, ms.map W.loc)] (gN 1) mYes (mBin fEq (mBi fLen (mConsT (mVar 1) mNilT)) (mBi fLen (mConsT (mBin fIx (mVar 0) (mC (.int 0))) mNilT))) [some (.loc n), none] (ms.map W.loc) G = .ok ((ms.map W.loc).map fun _ => W.bl true) G := by
    refine compF_map (fun _ => .bl true) (still_of h.top) fun w hw => ⟨_, rfl, rfl, ?_⟩
    obtain ⟨m, hm, rfl⟩ := List.mem_map.mp hw
    obtain ⟨r, hr, e⟩ := paired_mem h.row m hm
    obtain ⟨is, his, rfl⟩ := List.mem_map.mp hr
    have hlm : fLen [.val (.loc m)] G = .ok (.val (.int wide)) G := by rw [fLen_loc e, List.length_map, g.row is his]
    simp [hlm, hix, hlen0]
  have hall := fAll_yes (ms.map W.loc) G
  have hl3 : (ms.map W.loc).length ≤ 16777216 := by rw [List.length_map]; omega
  have hlist := isi_lst_list h.top
  have hw0 := g.w0
  have hw1 := g.w1
  generalize (ms.map W.loc).map (fun _ => W.bl true) = L at hc1 hc2 hall
  generalize ms.map W.loc = ws at *
  have i1 : (1 : Int) ≤ pic.length := by omega
  have i2 : (pic.length : Int) ≤ 24 := by omega
  have i3 : (1 : Int) ≤ wide := by omega
  have i4 : (wide : Int) ≤ 24 := by omega
  rw [seq_no (G1 := G) (by simp [hlist, hlen, i1, i2, mComp_at, miA_at, hit, wipeS, hl3, hc1, hall])]
  simp [hix, hlen0, i3, i4, mComp_at, miA_at, hit, wipeS, hl3, hc2, hall]
theorem need_picture_good {G : GH} {n : Nat} {ms : List Nat} {pic : List (List Int)} {wide : Nat} (h : RowsAt G n ms (pic.map iW)) (g : Good pic wide) : m_need_picture [.loc n] G = .ok .non G := by
  refine mDef_nx [some (.loc n)] ?_ (τ1 := [some (.loc n)])
  unfold b_need_picture
  simp [is_picture_good h g]
theorem no_picture {G : GH} {w : W} {a : String} (ht : tyOf G (.val w) = some a) (ha : subTy a "list" = some false) : m_is_picture [w] G = .ok (.bl false) G := by
  refine mDef_ok [some w, none] ?_
  unfold b_is_picture
  rw [seq_yes (G1 := G) (by simp [isi_of ht ha])]
  simp
/-! what is a picture, of anything -/
def lstOf (G : GH) : W → Option (List W)
  | .loc n => (match G[n]? with
    | some (.lst ws) => some ws
    | _ => none)
  | _ => none
def noFrl : W → Bool
  | .frl _ => false
  | _ => true
theorem lstOf_loc {G : GH} {n : Nat} {ws : List W} (h : G[n]? = some (.lst ws)) : lstOf G (.loc n) = some ws := by
  unfold lstOf
  dsimp only
  rw [h]
theorem lstOf_some {G : GH} {w : W} {ws : List W} (h : lstOf G w = some ws) : ∃ n, w = .loc n ∧ G[n]? = some (.lst ws) := by
  unfold lstOf at h
  split at h
  · rename_i n
    split at h
    · rename_i us e
      cases h
      exact ⟨n, rfl, e⟩
    · cases h
  · cases h
theorem lstOf_none {G : GH} {w : W} (hok : okW G w) (hf : noFrl w = true) (h : lstOf G w = none) : ∃ a, tyOf G (.val w) = some a ∧ subTy a "list" = some false := by
  cases w with
  | non => exact ⟨_, rfl, by decide⟩
  | bl b => exact ⟨_, rfl, by decide⟩
  | int i => exact ⟨_, rfl, by decide⟩
  | str x => exact ⟨_, rfl, by decide⟩
  | tup ws => exact ⟨_, rfl, by decide⟩
  | frl ws => cases hf
  | ty n => cases hok
  | cls n => cases hok
  | exn c a => cases hok
  | loc n =>
    unfold lstOf at h
    unfold okW tyOf at hok
    unfold tyOf
    dsimp only at *
    cases e : G[n]? with
    | none => rw [e] at hok; cases hok
    | some o =>
      rw [e] at h hok
      cases o with
      | lst ws => cases h
      | dK kvs => exact ⟨_, rfl, by decide⟩
      | dT kvs => exact ⟨_, rfl, by decide⟩
      | ins c fs => cases hok
theorem okW_lt {G : GH} {n : Nat} (h : okW G (.loc n)) : n < G.length := by
  unfold okW tyOf at h
  dsimp only at h
  cases e : G[n]? with
  | none => rw [e] at h; cases h
  | some o => exact (List.getElem?_eq_some_iff.mp e).1
theorem okW_app {G : GH} {w : W} (xs : GH) (h : okW G w) : okW (G ++ xs) w := by
  cases w with
  | loc n =>
    have hl := okW_lt h
    unfold okW tyOf at h ⊢
    dsimp only at h ⊢
    rw [List.getElem?_append_left hl]
    exact h
  | _ => exact h
theorem lstOf_app {G : GH} {w : W} (xs : GH) (h : okW G w) : lstOf (G ++ xs) w = lstOf G w := by
  cases w with
  | loc n =>
    have hl := okW_lt h
    unfold lstOf
    dsimp only
    rw [List.getElem?_append_left hl]
  | _ => rfl
structure okR (G : GH) (r : W) : Prop where
  ok : okW G r
  nf : noFrl r = true
  cs : ∀ cs, lstOf G r = some cs → cs.length ≤ 100000 ∧ ∀ c ∈ cs, okW G c
structure okP (G : GH) (w : W) : Prop where
  ok : okW G w
  nf : noFrl w = true
  rs : ∀ rs, lstOf G w = some rs → rs.length ≤ 100000 ∧ ∀ r ∈ rs, okR G r
theorem okR.app {G : GH} {r : W} (xs : GH) (h : okR G r) : okR (G ++ xs) r :=
  ⟨okW_app xs h.ok, h.nf, fun cs e => by
    rw [lstOf_app xs h.ok] at e
    exact ⟨(h.cs cs e).1, fun c hc => okW_app xs ((h.cs cs e).2 c hc)⟩⟩
theorem okP.app {G : GH} {w : W} (xs : GH) (h : okP G w) : okP (G ++ xs) w :=
  ⟨okW_app xs h.ok, h.nf, fun rs e => by
    rw [lstOf_app xs h.ok] at e
    exact ⟨(h.rs rs e).1, fun r hr => ((h.rs rs e).2 r hr).app xs⟩⟩
def cellsB (G : GH) (r : W) : Bool := match lstOf G r with
  | some cs => cs.all cellW
  | none => false
def lenOf (G : GH) (r : W) : Nat := match lstOf G r with
  | some cs => cs.length
  | none => 0
def isPicB (G : GH) (w : W) : Bool := match lstOf G w with
  | none => false
  | some rs => (decide (1 ≤ rs.length) && decide (rs.length ≤ 24) && rs.all (cellsB G)) && ((decide (1 ≤ lenOf G (rs.getD 0 .non)) && decide (lenOf G (rs.getD 0 .non) ≤ 24)) && rs.all fun r => decide (lenOf G r = lenOf G (rs.getD 0 .non)))
theorem all_congr {α : Type} {p q : α → Bool} {l : List α} (h : ∀ x ∈ l, p x = q x) : l.all p = l.all q := by
  induction l with
  | nil => rfl
  | cons a l ih => rw [List.all_cons, List.all_cons, h a List.mem_cons_self, ih fun x hx => h x (List.mem_cons_of_mem _ hx)]
theorem isPicB_app {G : GH} {w : W} (xs : GH) (h : okP G w) : isPicB (G ++ xs) w = isPicB G w := by
  unfold isPicB
  rw [lstOf_app xs h.ok]
  cases e : lstOf G w with
  | none => rfl
  | some rs =>
    have hr := (h.rs rs e).2
    have e1 : ∀ r ∈ rs, cellsB (G ++ xs) r = cellsB G r := fun r m => by unfold cellsB; rw [lstOf_app xs (hr r m).ok]
    have e2 : ∀ r ∈ rs, lenOf (G ++ xs) r = lenOf G r := fun r m => by unfold lenOf; rw [lstOf_app xs (hr r m).ok]
    have e3 : lenOf (G ++ xs) (rs.getD 0 .non) = lenOf G (rs.getD 0 .non) := by
      cases rs with
      | nil => rfl
      | cons r rs => exact e2 r List.mem_cons_self
    dsimp only
    rw [e3, all_congr e1, all_congr (p := fun r => decide (lenOf (G ++ xs) r = lenOf G (rs.getD 0 .non))) (q := fun r => decide (lenOf G r = lenOf G (rs.getD 0 .non))) fun r m => by rw [e2 r m]]
theorem cells_any {G : GH} {r : W} (h : okR G r) : m_are_cells [r] G = .ok (.bl (cellsB G r)) G := by
  unfold cellsB
  cases e : lstOf G r with
  | none =>
    obtain ⟨a, h1, h2⟩ := lstOf_none h.ok h.nf e
    exact cells_no_list h1 h2
  | some cs =>
    obtain ⟨n, rfl, hn⟩ := lstOf_some e
    exact are_cells_eq hn (by have := (h.cs cs e).1; omega) (h.cs cs e).2
theorem is_picture_any {G : GH} {w : W} (h : okP G w) : m_is_picture [w] G = .ok (.bl (isPicB G w)) G := by
  unfold isPicB
  cases e : lstOf G w with
  | none =>
    obtain ⟨a, h1, h2⟩ := lstOf_none h.ok h.nf e
    exact no_picture h1 h2
  | some rs =>
    obtain ⟨n, rfl, hn⟩ := lstOf_some e
    obtain ⟨hl, hr⟩ := h.rs rs e
    refine mDef_ok [some (.loc n), none] ?_
    unfold b_is_picture
    have hlist := isi_lst_list hn
    have hlen := fLen_loc hn
    have hit := iterA_at hn
    have hl3 : rs.length ≤ 16777216 := by omega
    dsimp only
    by_cases i1 : 1 ≤ rs.length
    · by_cases i2 : rs.length ≤ 24
      · have j1 : (1 : Int) ≤ rs.length := by omega
        have j2 : (rs.length : Int) ≤ 24 := by omega
        have hc1 : compF [(n, rs)] (gN 1) mYes (mCall m_are_cells [] (mCons (mVar 1) mNil)) [some (.loc n), none] rs G = .ok (rs.map fun r => W.bl (cellsB G r)) G :=
          compF_map (fun r => .bl (cellsB G r)) (still_of hn) fun r hm => ⟨_, rfl, rfl, by simp [cells_any (hr r hm)]⟩
        have hall := fAll_tmp (rs.map (cellsB G)) G
        rw [List.map_map] at hall
        rw [show (rs.map fun r => W.bl (cellsB G r)) = rs.map (W.bl ∘ cellsB G) from rfl] at hc1
        rw [show ((rs.map (cellsB G)).all id) = rs.all (cellsB G) by rw [List.all_map]; rfl] at hall
        cases hA : rs.all (cellsB G) with
        | false =>
          rw [hA] at hall
          generalize rs.map (W.bl ∘ cellsB G) = L at hc1 hall
          rw [seq_yes (G1 := G) (by simp [hlist, hlen, j1, j2, mComp_at, miA_at, hit, wipeS, hl3, hc1, hall])]
          simp
        | true =>
          rw [hA] at hall
          generalize rs.map (W.bl ∘ cellsB G) = L at hc1 hall
          rw [seq_no (G1 := G) (by simp [hlist, hlen, j1, j2, mComp_at, miA_at, hit, wipeS, hl3, hc1, hall])]
          have hlens : ∀ r ∈ rs, fLen [.val r] G = .ok (.val (.int (lenOf G r))) G := fun r hm => by
            have hb := List.all_eq_true.mp hA r hm
            unfold cellsB at hb
            unfold lenOf
            cases e' : lstOf G r with
            | none => rw [e'] at hb; cases hb
            | some cs =>
              obtain ⟨k, rfl, hk⟩ := lstOf_some e'
              exact fLen_loc hk
          have h0 : rs[0]? = some (rs.getD 0 .non) := by
            cases rs with
            | nil => cases i1
            | cons r rs => rfl
          have hm0 : rs.getD 0 .non ∈ rs := List.mem_of_getElem? h0
          have hix := fIx_loc0 hn h0
          have hL0 := hlens _ hm0
          generalize hr0 : rs.getD 0 .non = r0 at *
          have hc2 : compF [(n, rs)] (gN 1) mYes (mBin fEq (mBi fLen (mConsT (mVar 1) mNilT)) (mBi fLen (mConsT (mBin fIx (mVar 0) (mC (.int 0))) mNilT))) [some (.loc n), none] rs G = .ok (rs.map fun r => W.bl (decide (lenOf G r = lenOf G r0))) G := by
            refine compF_map (fun r => .bl (decide (lenOf G r = lenOf G r0))) (still_of hn) fun r hm => ⟨_, rfl, rfl, ?_⟩
            have q1 := hlens r hm
            generalize hla : lenOf G r = la at *
            generalize hlb : lenOf G r0 = lb at *
            have : ((la : Int) = (lb : Int)) = (la = lb) := propext Int.natCast_inj
            simp [q1, hix, hL0, this]
          have hall2 := fAll_tmp (rs.map fun r => decide (lenOf G r = lenOf G r0)) G
          rw [List.map_map] at hall2
          rw [show (rs.map fun r => W.bl (decide (lenOf G r = lenOf G r0))) = rs.map (W.bl ∘ fun r => decide (lenOf G r = lenOf G r0)) from rfl] at hc2
          rw [show ((rs.map fun r => decide (lenOf G r = lenOf G r0)).all id) = rs.all (fun r => decide (lenOf G r = lenOf G r0)) by rw [List.all_map]; rfl] at hall2
          generalize rs.map (W.bl ∘ fun r => decide (lenOf G r = lenOf G r0)) = L2 at hc2 hall2
          generalize (rs.all fun r => decide (lenOf G r = lenOf G r0)) = bb at *
          generalize lenOf G r0 = l0 at *
          by_cases k1 : 1 ≤ l0
          · by_cases k2 : l0 ≤ 24
            · have j3 : (1 : Int) ≤ l0 := by omega
              have j4 : (l0 : Int) ≤ 24 := by omega
              simp [hix, hL0, j3, j4, mComp_at, miA_at, hit, wipeS, hl3, hc2, hall2, i1, i2, k1, k2]
            · have j3 : (1 : Int) ≤ l0 := by omega
              have j4 : ¬ (l0 : Int) ≤ 24 := by omega
              simp [hix, hL0, j3, j4, k2]
          · have j3 : ¬ (1 : Int) ≤ l0 := by omega
            simp [hix, hL0, j3, k1]
      · have j1 : (1 : Int) ≤ rs.length := by omega
        have j2 : ¬ (rs.length : Int) ≤ 24 := by omega
        rw [seq_yes (G1 := G) (by simp [hlist, hlen, j1, j2])]
        simp [i2]
    · have j1 : ¬ (1 : Int) ≤ rs.length := by omega
      rw [seq_yes (G1 := G) (by simp [hlist, hlen, j1])]
      simp [i1]
/-- it is none, now and later -/
def BadP (G : GH) (w : W) : Prop := ∀ xs, m_is_picture [w] (G ++ xs) = .ok (.bl false) (G ++ xs)
theorem BadP.mono {G : GH} {w : W} (h : BadP G w) (xs : GH) : BadP (G ++ xs) w := fun ys => by
  rw [List.append_assoc]
  exact h _
theorem badP_of {G : GH} {w : W} (h : okP G w) (hb : isPicB G w = false) : BadP G w := fun xs => by
  have := is_picture_any (h.app xs)
  rw [isPicB_app xs h, hb] at this
  exact this
theorem need_picture_bad {G : GH} {w : W} (h : m_is_picture [w] G = .ok (.bl false) G) : m_need_picture [w] G = .ex 1 [] G := by
  refine mDef_ex [some w] ?_ (τ1 := [some w])
  unfold b_need_picture
  rw [if_yes (G1 := G) (by simp [h])]
  rfl
theorem copied_eq {G : GH} {n : Nat} {ms : List Nat} {rows : List (List W)} (h : RowsAt G n ms rows) (hl : rows.length ≤ 16777216) : m_law_copied [.loc n] G = .ok (.loc (G.length + rows.length)) (laidR G rows) := by
  refine mDef_ok [some (.loc n), none] ?_
  unfold b_law_copied
  have hc : compF [(n, ms.map W.loc)] (gN 1) mYes (mBi fList (mConsT (mVar 1) mNilT)) [some (.loc n), none] (ms.map W.loc) G = .ok (locs G.length rows.length) (G ++ rows.map fun r => .lst r) := by
    refine compF_allocP (fun r => r) (fun xs => still_of (get_mono h.top xs)) (paired_map (paired_imp h.row fun m r e xs => ⟨_, rfl, rfl, ?_⟩))
    have := fList_loc (get_mono e xs)
    simp [this]
  have hit := iterA_at h.top
  have hlm : (ms.map W.loc).length ≤ 16777216 := by rw [List.length_map, h.len]; exact hl
  unfold laidR
  generalize ms.map W.loc = ws at *
  simp [mComp_at, miA_at, hit, wipeS, hlm, hc]
end Lk08
set_option Elab.async false
set_option linter.all false
set_option maxRecDepth 100000
set_option maxHeartbeats 4000000
namespace Lk08
open PySem PySem.Spec PyProof.Rows L2 Sy
/-! a drawn picture -/
theorem min_two (q : Nat) (h0 : 0 < q) (h1 : q ≤ 24) : ∃ k : Nat, 0 < k ∧ k ≤ 24 ∧ ∀ G, fMin [.val (.int q), .val (.int 2)] G = .ok (.val (.int k)) G := by
  have mn : ∀ (G : GH), fMin [.val (.int q), .val (.int 2)] G = .ok (.val (.int (if (2 : Int) < q then 2 else q))) G := fun G => rfl
  by_cases h2 : (2 : Int) < q
  · exact ⟨2, by decide, by decide, fun G => by rw [mn, if_pos h2]; rfl⟩
  · exact ⟨q, h0, h1, fun G => by rw [mn, if_neg h2]⟩
theorem side_of {z m : Int} (h : 0 < m) (h2 : m ≤ 24) : ∃ n : Nat, 1 + z % m = n ∧ 0 < n ∧ n ≤ 24 := by
  have h3 := Int.emod_nonneg z (show m ≠ 0 by omega)
  have h4 := Int.emod_lt_of_pos z h
  obtain ⟨n, hn⟩ := nat_of (show 0 ≤ 1 + z % m by omega)
  exact ⟨n, hn, by omega, by omega⟩
theorem sidesB (r : Nat) (most : Nat) (m0 : 0 < most) (m1 : most ≤ 24) : ∃ wide high : Nat, (0 < wide ∧ wide ≤ 24 ∧ 0 < high ∧ high ≤ 24) ∧ ∀ (b : MS) (a0 a1 a3 a5 a7 a8 a9 a11 a12 a13 : Option W) (G : GH),
    sSeq (sSet 10 (mBin fAdd (mC (.int 1)) (mBin fMod (mVar 6) (mVar 2)))) (sSeq (sSet 4 (mBin fAdd (mC (.int 1)) (mBin fMod (mBin fFdiv (mVar 6) (mC (.int 30))) (mVar 2)))) (sSeq (sIf (mB (mBin fEq (mBin fMod (mBin fFdiv (mVar 6) (mC (.int 900))) (mC (.int 16))) (mC (.int 3)))) (sPar 10 4 (mCons (mBin fAdd (mC (.int 1)) (mBin fMod (mBin fFdiv (mVar 6) (mC (.int 14400))) (mC (.int 24)))) (mCons (mBi fMin (mConsT (mVar 4) (mConsT (mC (.int 2)) mNilT))) mNil))) sNext) (sSeq (sIf (mB (mBin fEq (mBin fMod (mBin fFdiv (mVar 6) (mC (.int 900))) (mC (.int 16))) (mC (.int 4)))) (sPar 10 4 (mCons (mBi fMin (mConsT (mVar 10) (mConsT (mC (.int 2)) mNilT))) (mCons (mBin fAdd (mC (.int 1)) (mBin fMod (mBin fFdiv (mVar 6) (mC (.int 14400))) (mC (.int 24)))) mNil))) sNext) b)))
      [a0, a1, some (.int most), a3, none, a5, some (.int r), a7, a8, a9, none, a11, a12, a13] G = b [a0, a1, some (.int most), a3, some (.int high), a5, some (.int r), a7, a8, a9, some (.int wide), a11, a12, a13] G := by
  have l30 : Nat.log2 30 < 9000 := by decide
  have l900 : Nat.log2 900 < 9000 := by decide
  have l144 : Nat.log2 14400 < 9000 := by decide
  have mp : (0 : Int) < most := by omega
  obtain ⟨w, hw, w0, w1⟩ := side_of (z := (r : Int)) (m := most) mp (by omega)
  obtain ⟨h, hh, h0, h1⟩ := side_of (z := (r : Int) / 30) (m := most) mp (by omega)
  obtain ⟨f, hf, f0, f1⟩ := side_of (z := (r : Int) / 14400) (m := 24) (by decide) (by decide)
  obtain ⟨mw, mw0, mw1, hmw⟩ := min_two w w0 w1
  obtain ⟨mh, mh0, mh1, hmh⟩ := min_two h h0 h1
  have fm : ∀ (z : Int) (G : GH), fMod (.val (.int z)) (.val (.int most)) G = .ok (.val (.int (z % most))) G := fun z G => fMod_int mp
  have s1 : ∀ (a0 a1 a3 a5 a7 a8 a9 a11 a12 a13 : Option W) (G : GH), sSet 10 (mBin fAdd (mC (.int 1)) (mBin fMod (mVar 6) (mVar 2))) [a0, a1, some (.int most), a3, none, a5, some (.int r), a7, a8, a9, none, a11, a12, a13] G = .nx [a0, a1, some (.int most), a3, none, a5, some (.int r), a7, a8, a9, some (.int w), a11, a12, a13] G := fun _ _ _ _ _ _ _ _ _ _ G => by simp [fm, hw]
  have s2 : ∀ (a0 a1 a3 a5 a7 a8 a9 a11 a12 a13 : Option W) (G : GH), sSet 4 (mBin fAdd (mC (.int 1)) (mBin fMod (mBin fFdiv (mVar 6) (mC (.int 30))) (mVar 2))) [a0, a1, some (.int most), a3, none, a5, some (.int r), a7, a8, a9, some (.int w), a11, a12, a13] G = .nx [a0, a1, some (.int most), a3, some (.int h), a5, some (.int r), a7, a8, a9, some (.int w), a11, a12, a13] G := fun _ _ _ _ _ _ _ _ _ _ G => by simp [fm, fFdiv_int, l30, hh]
  by_cases c1 : (r : Int) / 900 % 16 = 3
  · have c2 : ¬ (r : Int) / 900 % 16 = 4 := by omega
    refine ⟨f, mh, ⟨f0, f1, mh0, mh1⟩, fun b a0 a1 a3 a5 a7 a8 a9 a11 a12 a13 G => ?_⟩
    rw [seq_nx (s1 ..), seq_nx (s2 ..), seq_yes (G1 := G) (by simp [fMod_int, fFdiv_int, l900, c1])]
    rw [seq_nx (τ1 := [a0, a1, some (.int most), a3, some (.int mh), a5, some (.int r), a7, a8, a9, some (.int f), a11, a12, a13]) (G1 := G) (by simp [fMod_int, fFdiv_int, l144, hf, hmh])]
    rw [seq_no (G1 := G) (by simp [fMod_int, fFdiv_int, l900, c2])]
  · by_cases c2 : (r : Int) / 900 % 16 = 4
    · refine ⟨mw, f, ⟨mw0, mw1, f0, f1⟩, fun b a0 a1 a3 a5 a7 a8 a9 a11 a12 a13 G => ?_⟩
      rw [seq_nx (s1 ..), seq_nx (s2 ..), seq_no (G1 := G) (by simp [fMod_int, fFdiv_int, l900, c1])]
      rw [seq_yes (G1 := G) (by simp [fMod_int, fFdiv_int, l900, c2])]
      rw [seq_nx (τ1 := [a0, a1, some (.int most), a3, some (.int f), a5, some (.int r), a7, a8, a9, some (.int mw), a11, a12, a13]) (G1 := G) (by simp [fMod_int, fFdiv_int, l144, hf, hmw])]
    · refine ⟨w, h, ⟨w0, w1, h0, h1⟩, fun b a0 a1 a3 a5 a7 a8 a9 a11 a12 a13 G => ?_⟩
      rw [seq_nx (s1 ..), seq_nx (s2 ..), seq_no (G1 := G) (by simp [fMod_int, fFdiv_int, l900, c1])]
      rw [seq_no (G1 := G) (by simp [fMod_int, fFdiv_int, l900, c2])]
def msB (n i : Nat) : List Nat := (List.range i).map fun j => n + 2 * j + 2
theorem msB_succ (n i : Nat) : msB n (i + 1) = msB n i ++ [n + 2 * i + 2] := by simp [msB, List.range_succ]
theorem msB_gt {n i m : Nat} (h : m ∈ msB n i) : n < m := by
  obtain ⟨j, _, rfl⟩ := List.mem_map.mp h
  omega
theorem msB_nodup (n i : Nat) : (msB n i).Nodup := by
  unfold msB
  refine List.Pairwise.map _ (fun a b h => ?_) List.nodup_range
  omega
theorem rowB_turn {ns : List Int} (hb : ∀ z ∈ ns, Builtin.Int.intBits z ≤ 1048576) {at_ r wide high y : Nat} {many step : Int} {most : W} (ha : at_ ≤ 100) (w0 : 0 < wide) (w1 : wide ≤ 24) (h1 : high ≤ 24) (y0 : 0 < many) (y1 : many ≤ 16) (z0 : 0 < step) (z1 : step ≤ 16) (hy : y < high) (a3 a7 : Option W)
    {rows : List (List Int)} {G G' : GH} (hlen : rows.length = y) (hrows : RowsAt G' G.length (msB G.length y) (rows.map iW)) (hkeep : Keeps G G') (hsize : G'.length = G.length + 1 + 2 * y) :
    ∃ (cs : List Int) (b3 b7 : Option W) (G2 : GH), (sSeq (sSet 7 (mBin fAdd (mCall m_law_mixed [] (mCons (mVar 0) (mCons (mBin fAdd (mBin fAdd (mVar 1) (mC (.int 1))) (mBin fMod (mVar 11) (mC (.int 10)))) mNil))) (mBin fMul (mBin fMul (mC (.int 611)) (mVar 11)) (mVar 11)))) (sSeq (sSet 3 (mComp (miR (mCons (mVar 10) mNil)) (gN 12) mYes (mBin fMod (mBin fFdiv (mBin fMod (mBin fMul (mVar 7) (mBin fAdd (mBin fAdd (mBin fMul (mVar 12) (mVar 12)) (mBin fMul (mC (.int 3)) (mVar 12))) (mC (.int 7)))) (mC (.int 1000003))) (mC (.int 11))) (mVar 5)) [12])) (sDrop (mMtF isLst fApp (mVar 8) (mCons (mComp (miA (mVar 3)) (gN 13) mYes (mBin fMod (mBin fAdd (mBin fFdiv (mVar 6) (mC (.int 131))) (mBin fMul (mVar 13) (mVar 9))) (mC (.int 16))) [13]) mNil)))))
      [some (scr ns), some (.int at_), some most, a3, some (.int high), some (.int many), some (.int r), a7, some (.loc G.length), some (.int step), some (.int wide), some (.int y), none, none] G' = .nx [some (scr ns), some (.int at_), some most, b3, some (.int high), some (.int many), some (.int r), b7, some (.loc G.length), some (.int step), some (.int wide), some (.int y), none, none] G2 ∧
      (cs.length = wide ∧ ∀ c ∈ cs, 0 ≤ c ∧ c ≤ 15) ∧ RowsAt G2 G.length (msB G.length (y + 1)) ((rows ++ [cs]).map iW) ∧ Keeps G G2 ∧ G2.length = G.length + 1 + 2 * (y + 1) := by
  have hk : at_ + 1 + y % 10 ≤ 1000 := by omega
  have hmx := (mixed_nat hb (at_ + 1 + y % 10) hk).choose_spec
  generalize (mixed_nat hb (at_ + 1 + y % 10) hk).choose = r1 at hmx
  have hm2 := hmx.2 G'
  rw [show (((at_ + 1 + y % 10 : Nat)) : Int) = (at_ : Int) + 1 + (y : Int) % 10 by omega] at hm2
  have hr1 := hmx.1
  have q1 : mulOk 611 (y : Int) = true := mulOk_of (a := 10) (b := 5) (by decide) (bits_small (by omega) (by omega)) (by decide)
  have q2 : mulOk (611 * (y : Int)) (y : Int) = true := mulOk_of (a := 20) (b := 5) (bits_small (by omega) (by omega)) (bits_small (by omega) (by omega)) (by decide)
  have hone : ∃ one : Nat, (r1 : Int) + 611 * (y : Int) * (y : Int) = one ∧ one < 2 ^ 27 := by
    have h2 : 611 * (y : Int) * y = ((611 * y * y : Nat) : Int) := by simp
    have h3 : y * y ≤ 24 * 24 := Nat.mul_le_mul (by omega) (by omega)
    have h4 : 611 * y * y = 611 * (y * y) := Nat.mul_assoc ..
    exact ⟨r1 + 611 * y * y, by rw [h2]; omega, by omega⟩
  have hone1 := hone.choose_spec.1
  have hone2 := hone.choose_spec.2
  generalize hone.choose = one at hone1 hone2
  rw [seq_nx (τ1 := [some (scr ns), some (.int at_), some most, a3, some (.int high), some (.int many), some (.int r), some (.int one), some (.loc G.length), some (.int step), some (.int wide), some (.int y), none, none]) (G1 := G') (by simp [fMod_int, hm2, fMul_int, q1, q2, hone1])]
  have hc1 : compF [] (gN 12) mYes (mBin fMod (mBin fFdiv (mBin fMod (mBin fMul (mVar 7) (mBin fAdd (mBin fAdd (mBin fMul (mVar 12) (mVar 12)) (mBin fMul (mC (.int 3)) (mVar 12))) (mC (.int 7)))) (mC (.int 1000003))) (mC (.int 11))) (mVar 5)) [some (scr ns), some (.int at_), some most, a3, some (.int high), some (.int many), some (.int r), some (.int one), some (.loc G.length), some (.int step), some (.int wide), some (.int y), none, none] (rangeW 0 wide) G' =
      .ok ((List.range wide).map fun x : Nat => W.int ((one : Int) * ((x : Int) * x + 3 * x + 7) % 1000003 / 11 % many)) G' := by
    refine compF_range _ fun x hx => ⟨_, rfl, rfl, ?_⟩
    have p1 : mulOk (x : Int) (x : Int) = true := mulOk_of (a := 5) (b := 5) (bits_small (by omega) (by omega)) (bits_small (by omega) (by omega)) (by decide)
    have p2 : mulOk 3 (x : Int) = true := mulOk_of (a := 2) (b := 5) (by decide) (bits_small (by omega) (by omega)) (by decide)
    have hxx : (x : Int) * x = ((x * x : Nat) : Int) := by simp
    have hxb : x * x ≤ 24 * 24 := Nat.mul_le_mul (by omega) (by omega)
    have p3 : mulOk (one : Int) ((x : Int) * x + 3 * x + 7) = true := mulOk_of (a := 27) (b := 20) (bits_small (by omega) (by omega)) (bits_small (by omega) (by omega)) (by decide)
    have l11 : Nat.log2 11 < 9000 := by decide
    simp [fMul_int, p1, p2, p3, fMod_int, fFdiv_int, l11, y0]
  have hl1 : (rangeW 0 wide).length ≤ 16777216 := by rw [rangeW_len]; omega
  have hir := iterR_nat wide (by omega) G'
  obtain ⟨dr, hdr⟩ : ∃ dr, dr = (List.range wide).map fun x : Nat => (one : Int) * ((x : Int) * x + 3 * x + 7) % 1000003 / 11 % many := ⟨_, rfl⟩
  have hdr2 : ((List.range wide).map fun x : Nat => W.int ((one : Int) * ((x : Int) * x + 3 * x + 7) % 1000003 / 11 % many)) = iW dr := by
    rw [hdr]
    show _ = (List.map _ _).map W.int
    rw [List.map_map]
    rfl
  have hdl : dr.length = wide := by rw [hdr]; simp
  have hdb : ∀ c ∈ dr, 0 ≤ c ∧ c ≤ 15 := by
    rw [hdr]
    intro c hc
    obtain ⟨x, _, rfl⟩ := List.mem_map.mp hc
    have := Int.emod_nonneg ((one : Int) * ((x : Int) * x + 3 * x + 7) % 1000003 / 11) (show many ≠ 0 by omega)
    have := Int.emod_lt_of_pos ((one : Int) * ((x : Int) * x + 3 * x + 7) % 1000003 / 11) y0
    exact ⟨by assumption, by omega⟩
  rw [hdr2] at hc1
  clear hdr hdr2 hone1 q1 q2 hm2 hmx
  have hd1 : (G' ++ [GO.lst (iW dr)])[G'.length]? = some (.lst (iW dr)) := last_get _ _
  rw [seq_nx (τ1 := [some (scr ns), some (.int at_), some most, some (.loc G'.length), some (.int high), some (.int many), some (.int r), some (.int one), some (.loc G.length), some (.int step), some (.int wide), some (.int y), none, none]) (G1 := G' ++ [.lst (iW dr)]) (by
    generalize iW dr = ds at *
    generalize rangeW 0 wide = rw' at *
    simp [mComp_at, miR_at, hir, wipeS, hl1, hc1])]
  obtain ⟨cs, hcs⟩ : ∃ cs, cs = dr.map fun c => ((r : Int) / 131 + c * step) % 16 := ⟨_, rfl⟩
  have hcl : cs.length = wide := by rw [hcs, List.length_map, hdl]
  have hcb : ∀ c ∈ cs, 0 ≤ c ∧ c ≤ 15 := by
    rw [hcs]
    intro c hc
    obtain ⟨x, _, rfl⟩ := List.mem_map.mp hc
    omega
  have hc2 : compF [(G'.length, iW dr)] (gN 13) mYes (mBin fMod (mBin fAdd (mBin fFdiv (mVar 6) (mC (.int 131))) (mBin fMul (mVar 13) (mVar 9))) (mC (.int 16))) [some (scr ns), some (.int at_), some most, some (.loc G'.length), some (.int high), some (.int many), some (.int r), some (.int one), some (.loc G.length), some (.int step), some (.int wide), some (.int y), none, none] (iW dr) (G' ++ [.lst (iW dr)]) = .ok (iW cs) (G' ++ [.lst (iW dr)]) := by
    have hst := still_of hd1
    generalize hX : [(G'.length, iW dr)] = src at *
    clear hX
    rw [hcs, show iW (dr.map fun c => ((r : Int) / 131 + c * step) % 16) = dr.map fun c => W.int (((r : Int) / 131 + c * step) % 16) by
      show (List.map _ _).map W.int = _
      rw [List.map_map]
      rfl]
    refine compF_paired (F := fun c => W.int (((r : Int) / 131 + c * step) % 16)) hst ?_
    refine paired_map ?_
    refine paired_of rfl fun i x y e1 e2 => ?_
    rw [e1] at e2
    cases e2
    have hx := hdb x (List.mem_of_getElem? e1)
    have p1 : mulOk x step = true := mulOk_of (a := 4) (b := 5) (bits_small hx.1 (by omega)) (bits_small (by omega) (by omega)) (by decide)
    have l131 : Nat.log2 131 < 9000 := by decide
    exact ⟨_, rfl, rfl, by simp [fMul_int, p1, fMod_int, fFdiv_int, l131]⟩
  have hia := iterA_at hd1
  have hl2 : (iW dr).length ≤ 16777216 := by rw [List.length_map]; omega
  have hi8 : isLst (.val (.loc G.length)) (G' ++ [.lst (iW dr)]) = true := isLst_ok (get_mono hrows.top _)
  have hrows2 : RowsAt (G' ++ [.lst (iW dr)] ++ [GO.lst (iW cs)]) G.length (msB G.length y) (rows.map iW) := (hrows.mono _).mono _
  have happ := appOk (w := .loc (G'.length + 1)) hrows2.top (by rw [List.length_map, hrows2.len, List.length_map]; omega)
  have hcg : (G' ++ [GO.lst (iW dr)] ++ [GO.lst (iW cs)])[G'.length + 1]? = some (.lst (iW cs)) := by simp
  have hsn := hrows2.snoc (fun hm => Nat.lt_irrefl _ (msB_gt hm)) hcg (by omega)
  rw [show G'.length + 1 = G.length + 2 * y + 2 by omega, ← msB_succ] at hsn
  rw [show (rows.map iW ++ [iW cs]) = (rows ++ [cs]).map iW by rw [List.map_append]; rfl] at hsn
  have hkp : Keeps G ((G' ++ [GO.lst (iW dr)] ++ [GO.lst (iW cs)]).set G.length (GO.lst ((msB G.length y).map W.loc ++ [.loc (G.length + 2 * y + 2)]))) := ((hkeep.trans (Keeps.app _ _)).trans (Keeps.app _ _)).set (Nat.le_refl _) _
  have hGl : (G' ++ [GO.lst (iW dr)]).length = G.length + 2 * y + 2 := by simp; omega
  rw [show G'.length + 1 = G.length + 2 * y + 2 by omega] at happ
  have hsz : ((G' ++ [GO.lst (iW dr)] ++ [GO.lst (iW cs)]).set G.length (GO.lst ((msB G.length y).map W.loc ++ [.loc (G.length + 2 * y + 2)]))).length = G.length + 1 + 2 * (y + 1) := by simp; omega
  refine ⟨cs, some (.loc G'.length), some (.int one), _, ?_, ⟨hcl, hcb⟩, hsn, hkp, hsz⟩
  clear hsn hkp hsz hrows2
  generalize (msB G.length y).map W.loc = us at *
  generalize iW cs = cw at *
  generalize iW dr = ds at *
  generalize G' ++ [GO.lst ds] = G2 at *
  simp [hi8, mComp_at, miA_at, hia, wipeS, hl2, hc2, hGl, happ]
theorem picB_eq {ns : List Int} (hb : ∀ z ∈ ns, Builtin.Int.intBits z ≤ 1048576) (at_ most : Nat) (ha : at_ ≤ 100) (m0 : 0 < most) (m1 : most ≤ 24) (G : GH) :
    ∃ pic wide G', Good pic wide ∧ m_law_picture [scr ns, .int at_, .int most] G = .ok (.loc G.length) G' ∧ RowsAt G' G.length (msB G.length pic.length) (pic.map iW) ∧ Keeps G G' := by
  suffices h : ∃ pic wide G', Good pic wide ∧ b_law_picture [some (scr ns), some (.int at_), some (.int most), none, none, none, none, none, none, none, none, none, none, none] G = .rt (.loc G.length) G' ∧ RowsAt G' G.length (msB G.length pic.length) (pic.map iW) ∧ Keeps G G' by
    obtain ⟨pic, wide, G', g, h, r⟩ := h
    exact ⟨pic, wide, G', g, mDef_ok _ h, r⟩
  unfold b_law_picture
  obtain ⟨r, hr, hmix⟩ := mixed_nat hb at_ (by omega)
  rw [seq_nx (τ1 := [some (scr ns), some (.int at_), some (.int most), none, none, none, some (.int r), none, none, none, none, none, none, none]) (G1 := G) (by simp [hmix])]
  obtain ⟨wide, high, ⟨w0, w1, h0, h1⟩, hs⟩ := sidesB r most m0 m1
  rw [hs]
  clear hs hmix
  have l360 : Nat.log2 360000 < 9000 := by decide
  have l17 : Nat.log2 17 < 9000 := by decide
  obtain ⟨u, hu, hix⟩ := fIx_mod (ws := [W.int 2, .int 3, .int 2, .int 16, .int 1, .int 2]) (z := (r : Int) / 360000) (m := 6) (by decide) rfl G
  obtain ⟨v, hv, hix2⟩ := fIx_mod (ws := [W.int 1, .int 3, .int 5, .int 7, .int 9, .int 11, .int 13, .int 15]) (z := (r : Int) / 17) (m := 8) (by decide) rfl G
  obtain ⟨many, rfl, y0, y1⟩ : ∃ z : Int, u = .int z ∧ 0 < z ∧ z ≤ 16 := by
    simp at hu
    rcases hu with rfl | rfl | rfl | rfl | rfl | rfl <;> exact ⟨_, rfl, by decide, by decide⟩
  obtain ⟨step, rfl, z0, z1⟩ : ∃ z : Int, v = .int z ∧ 0 < z ∧ z ≤ 16 := by
    simp at hv
    rcases hv with rfl | rfl | rfl | rfl | rfl | rfl | rfl | rfl <;> exact ⟨_, rfl, by decide, by decide⟩
  rw [seq_nx (τ1 := [some (scr ns), some (.int at_), some (.int most), none, some (.int high), some (.int many), some (.int r), none, none, none, some (.int wide), none, none, none]) (G1 := G) (by
    have hix' : fIx (.tmp [.int 2, .int 3, .int 2, .int 16, .int 1, .int 2]) (.val (.int ((r : Int) / 360000 % 6))) G = .ok (.val (.int many)) G := hix
    simp [fMod_int, fFdiv_int, l360, hix'])]
  rw [seq_nx (τ1 := [some (scr ns), some (.int at_), some (.int most), none, some (.int high), some (.int many), some (.int r), none, none, some (.int step), some (.int wide), none, none, none]) (G1 := G) (by
    have hix' : fIx (.tmp [.int 1, .int 3, .int 5, .int 7, .int 9, .int 11, .int 13, .int 15]) (.val (.int ((r : Int) / 17 % 8))) G = .ok (.val (.int step)) G := hix2
    simp [fMod_int, fFdiv_int, l17, hix'])]
  rw [seq_nx (τ1 := [some (scr ns), some (.int at_), some (.int most), none, some (.int high), some (.int many), some (.int r), none, some (.loc G.length), some (.int step), some (.int wide), none, none, none]) (G1 := G ++ [.lst []]) (by simp)]
  clear hix hix2 hu hv
  have hmi : miR (mCons (mVar 4) mNil) [some (scr ns), some (.int at_), some (.int most), none, some (.int high), some (.int many), some (.int r), none, some (.loc G.length), some (.int step), some (.int wide), none, none, none] (G ++ [.lst []]) = .ok (rangeW 0 high, []) (G ++ [.lst []]) := by
    have := iterR_nat high (by omega) (G ++ [.lst []])
    simp [miR_at, this]
  rw [sSeq_at, sFor_at, hmi, R.toS_ok]
  refine forL_run (I := fun i τ G' => ∃ (rows : List (List Int)) (a3 a7 a11 : Option W), τ = [some (scr ns), some (.int at_), some (.int most), a3, some (.int high), some (.int many), some (.int r), a7, some (.loc G.length), some (.int step), some (.int wide), a11, none, none] ∧
      rows.length = i ∧ (∀ q ∈ rows, q.length = wide ∧ ∀ c ∈ q, 0 ≤ c ∧ c ≤ 15) ∧ RowsAt G' G.length (msB G.length i) (rows.map iW) ∧ Keeps G G' ∧ G'.length = G.length + 1 + 2 * i)
    (E := fun q => ∃ pic wide G', Good pic wide ∧ q.andThen (sRet (mVar 8)) = .rt (.loc G.length) G' ∧ RowsAt G' G.length (msB G.length pic.length) (pic.map iW) ∧ Keeps G G') (src := []) (ws := rangeW 0 high)
    (τ := [some (scr ns), some (.int at_), some (.int most), none, some (.int high), some (.int many), some (.int r), none, some (.loc G.length), some (.int step), some (.int wide), none, none, none]) (G := G ++ [.lst []])
    ⟨[], none, none, none, rfl, rfl, fun q hq => absurd hq (by simp), ⟨by simp [msB], .nil⟩, Keeps.app _ _, by simp⟩ ?_ ?_
  · rintro y w τ G' hw ⟨rows, a3, a7, a11, rfl, hlen, hgood, hrows, hkeep, hsize⟩
    obtain ⟨hy, rfl⟩ := rangeW_get hw
    rw [Int.zero_add]
    refine ⟨still_nil, _, rfl, ?_⟩
    have hk := (rowB_turn (r := r) (most := .int most) hb ha w0 w1 h1 y0 y1 z0 z1 hy a3 a7 hlen hrows hkeep hsize).choose_spec.choose_spec.choose_spec.choose_spec
    show Turn _ _ (sSeq _ _ [some (scr ns), some (.int at_), some (.int most), a3, some (.int high), some (.int many), some (.int r), a7, some (.loc G.length), some (.int step), some (.int wide), some (.int y), none, none] G')
    rw [hk.1]
    refine ⟨_, _, _, _, rfl, ?_, fun q hq => ?_, hk.2.2.1, hk.2.2.2.1, hk.2.2.2.2⟩
    · rw [List.length_append, hlen, List.length_singleton]
    · rcases List.mem_append.mp hq with z | z
      · exact hgood q z
      · rw [List.mem_singleton.mp z]
        exact hk.2.1
  · rintro τ G' ⟨rows, a3, a7, a11, rfl, hlen, hgood, hrows, hkeep, hsize⟩
    rw [rangeW_len] at hlen hrows
    refine ⟨still_nil, rows, wide, G', ⟨by omega, by omega, w0, w1, fun q hq => (hgood q hq).1, fun q hq => (hgood q hq).2⟩, rfl, by rw [hlen]; exact hrows, hkeep⟩
end Lk08
set_option Elab.async false
set_option linter.all false
set_option maxRecDepth 100000
set_option maxHeartbeats 4000000
namespace Lk08
open PySem PySem.Spec PyProof.Rows L2 Sy
/-! a picture of which one thing is none -/
theorem okW_list {G : GH} {n : Nat} {ws : List W} (h : G[n]? = some (.lst ws)) : okW G (.loc n) := by
  unfold okW
  rw [tyOf_lst h]
  rfl
theorem okR_ints {G : GH} {m : Nat} {is : List Int} (h : G[m]? = some (.lst (iW is))) (hl : is.length ≤ 1000) : okR G (.loc m) :=
  ⟨okW_list h, rfl, fun cs e => by
    rw [lstOf_loc h] at e
    cases e
    exact ⟨by rw [List.length_map]; omega, fun c hc => by obtain ⟨i, _, rfl⟩ := List.mem_map.mp hc; rfl⟩⟩
theorem okR_flat {G : GH} {r : W} (h1 : okW G r) (h2 : noFrl r = true) (h3 : lstOf G r = none) : okR G r := ⟨h1, h2, fun cs e => by rw [h3] at e; cases e⟩
theorem okP_flat {G : GH} {r : W} (h1 : okW G r) (h2 : noFrl r = true) (h3 : lstOf G r = none) : okP G r := ⟨h1, h2, fun cs e => by rw [h3] at e; cases e⟩
theorem isPicB_flat {G : GH} {r : W} (h3 : lstOf G r = none) : isPicB G r = false := by unfold isPicB; rw [h3]
theorem badP_flat {G : GH} {r : W} (h1 : okW G r) (h2 : noFrl r = true) (h3 : lstOf G r = none) : BadP G r := badP_of (okP_flat h1 h2 h3) (isPicB_flat h3)
theorem row_get {G : GH} {n : Nat} {ms : List Nat} {pic : List (List Int)} (h : RowsAt G n ms (pic.map iW)) {i : Nat} {r : List Int} (e : pic[i]? = some r) : ∃ m, ms[i]? = some m ∧ G[m]? = some (.lst (iW r)) :=
  paired_nth h.row (by rw [List.getElem?_map, e]; rfl)
theorem row_of {G : GH} {n : Nat} {ms : List Nat} {pic : List (List Int)} (h : RowsAt G n ms (pic.map iW)) {i m : Nat} (e : ms[i]? = some m) : ∃ r, pic[i]? = some r ∧ G[m]? = some (.lst (iW r)) := by
  have hl : ms.length = pic.length := by rw [h.len, List.length_map]
  have hi : i < pic.length := by rw [← hl]; exact (List.getElem?_eq_some_iff.mp e).1
  obtain ⟨m', e1, e2⟩ := row_get h (List.getElem?_eq_getElem hi)
  rw [e] at e1
  cases e1
  exact ⟨_, List.getElem?_eq_getElem hi, e2⟩
/-- one row is another thing -/
theorem bad_splice {G : GH} {n k y wide : Nat} {ms : List Nat} {pic : List (List Int)} {s : W} (h : RowsAt G n ms (pic.map iW)) (g : Good pic wide) (hy : y < pic.length) (hs : okR G s) (hb : cellsB G s = false ∨ (lenOf G s ≠ wide ∧ 2 ≤ pic.length))
    (hk : G[k]? = some (.lst ((ms.map W.loc).set y s))) : BadP G (.loc k) := by
  have hml : ms.length = pic.length := by rw [h.len, List.length_map]
  have hh := g.h1
  have hrow : ∀ m ∈ ms, okR G (.loc m) ∧ lenOf G (.loc m) = wide := fun m hm => by
    obtain ⟨i, hi⟩ := List.mem_iff_getElem?.mp hm
    obtain ⟨r, e1, e2⟩ := row_of h hi
    have hr := List.mem_of_getElem? e1
    have hw := g.row r hr
    have w1 := g.w1
    exact ⟨okR_ints e2 (by omega), by unfold lenOf; rw [lstOf_loc e2]; show (iW r).length = wide; rw [List.length_map, hw]⟩
  have hin : s ∈ (ms.map W.loc).set y s := List.mem_of_getElem? (i := y) (List.getElem?_set_self (by rw [List.length_map]; omega))
  refine badP_of ⟨okW_list hk, rfl, fun rs e => ?_⟩ ?_
  · rw [lstOf_loc hk] at e
    cases e
    refine ⟨by rw [List.length_set, List.length_map]; omega, fun r hr => ?_⟩
    rcases List.mem_or_eq_of_mem_set hr with z | z
    · obtain ⟨m, hm, rfl⟩ := List.mem_map.mp z
      exact (hrow m hm).1
    · rw [z]
      exact hs
  · unfold isPicB
    rw [lstOf_loc hk]
    dsimp only
    rcases hb with hb | ⟨hb, h2⟩
    · have : ((ms.map W.loc).set y s).all (cellsB G) = false := by
        rw [List.all_eq_false]
        exact ⟨s, hin, by rw [hb]; exact Bool.false_ne_true⟩
      rw [this]
      simp
    · have : (((ms.map W.loc).set y s).all fun r => decide (lenOf G r = lenOf G (((ms.map W.loc).set y s).getD 0 .non))) = false := by
        rw [← Bool.not_eq_true]
        intro hA
        have hA := List.all_eq_true.mp hA
        have q1 := of_decide_eq_true (hA s hin)
        obtain ⟨y2, hy2, hne⟩ : ∃ y2, y2 < pic.length ∧ y ≠ y2 := by
          by_cases h0 : y = 0
          · exact ⟨1, by omega, by omega⟩
          · exact ⟨0, by omega, h0⟩
        have e2 : ((ms.map W.loc).set y s)[y2]? = some (.loc ms[y2]) := by
          rw [List.getElem?_set_ne hne, List.getElem?_map, List.getElem?_eq_getElem (by omega)]
          rfl
        have q2 := of_decide_eq_true (hA _ (List.mem_of_getElem? e2))
        rw [(hrow _ (List.getElem_mem _)).2] at q2
        rw [← q2] at q1
        exact hb q1
      rw [this]
      simp
theorem bad_25 {G : GH} {k : Nat} {rs : List W} (hk : G[k]? = some (.lst rs)) (hl : rs.length = 25) (hr : ∀ r ∈ rs, okR G r) : BadP G (.loc k) := by
  refine badP_of ⟨okW_list hk, rfl, fun us e => ?_⟩ ?_
  · rw [lstOf_loc hk] at e
    cases e
    exact ⟨by omega, hr⟩
  · unfold isPicB
    rw [lstOf_loc hk]
    simp [hl]
theorem badp_wide {G : GH} {k : Nat} {rs : List W} (hk : G[k]? = some (.lst rs)) (h0 : 0 < rs.length) (hl : rs.length ≤ 24) (hr : ∀ r ∈ rs, okR G r ∧ lenOf G r = 25) : BadP G (.loc k) := by
  refine badP_of ⟨okW_list hk, rfl, fun us e => ?_⟩ ?_
  · rw [lstOf_loc hk] at e
    cases e
    exact ⟨by omega, fun r h => (hr r h).1⟩
  · unfold isPicB
    rw [lstOf_loc hk]
    have : lenOf G (rs.getD 0 .non) = 25 := by
      cases rs with
      | nil => cases h0
      | cons r rs => exact (hr r List.mem_cons_self).2
    dsimp only
    rw [this]
    simp
theorem bad_nil {G : GH} {k : Nat} (hk : G[k]? = some (.lst [])) : BadP G (.loc k) := by
  refine badP_of ⟨okW_list hk, rfl, fun us e => ?_⟩ ?_
  · rw [lstOf_loc hk] at e
    cases e
    exact ⟨by simp, fun r hr => absurd hr (by simp)⟩
  · unfold isPicB
    rw [lstOf_loc hk]
    simp
theorem odd_cell {G : GH} {n : Nat} (hn : G[n]? = some (.lst [.int 0])) : ∀ u ∈ [W.int 16, .int (-1), .bl true, .non, .str "0", .loc n, .int (10 ^ 20), .bl false], okW G u ∧ cellW u = false := by
  intro u hu
  simp at hu
  rcases hu with rfl | rfl | rfl | rfl | rfl | rfl | rfl | rfl
  · exact ⟨rfl, rfl⟩
  · exact ⟨rfl, rfl⟩
  · exact ⟨rfl, rfl⟩
  · exact ⟨rfl, rfl⟩
  · exact ⟨rfl, rfl⟩
  · exact ⟨okW_list hn, rfl⟩
  · exact ⟨rfl, by simp [cellW, amongW]⟩
  · exact ⟨rfl, rfl⟩
theorem fPow_20 (G : GH) : fPow (.val (.int 10)) (.val (.int 20)) G = .ok (.val (.int (10 ^ 20))) G := rfl
theorem splice_eq {ws : List W} {y : Nat} {s : W} (hy : y < ws.length) : ws.take y ++ [s] ++ ws.drop (y + 1) = ws.set y s := by
  rw [List.set_eq_take_append_cons_drop, if_pos hy, List.append_assoc]
  rfl
theorem fAdd_tt {G : GH} {us ws : List W} (hl : us.length + ws.length ≤ 16777216) : fAdd (.tmp us) (.tmp ws) G = .ok (.tmp (us ++ ws)) G := by
  unfold fAdd
  simp only [wrl_tmp, if_pos hl]
theorem fAdd_lt {G : GH} {L : Nat} {ws us : List W} (h : G[L]? = some (.lst ws)) (hl : ws.length + us.length ≤ 16777216) : fAdd (.val (.loc L)) (.tmp us) G = .ok (.tmp (ws ++ us)) G := by
  unfold fAdd
  simp [h, hl]
/-- a thing put in the place of one row -/
theorem put_row {G : GH} {n y : Nat} {ms : List W} {s : W} (h : G[n]? = some (.lst ms)) (hy : y < ms.length) (hl : ms.length ≤ 1000) (a0 a2 a3 a4 a6 a7 : Option W) :
    (sRet (mBin fAdd (mBin fAdd (mSl (mVar 1) mNoP (mP (mVar 8))) (mLst (mCons (mVar 5) mNil))) (mSl (mVar 1) (mP (mBin fAdd (mVar 8) (mC (.int 1)))) mNoP))) [a0, some (.loc n), a2, a3, a4, some s, a6, a7, some (.int y)] G = .rt (.loc G.length) (G ++ [.lst (ms.set y s)]) := by
  have s1 := fSl_loc h none (some (y : Int))
  have s2 := fSl_loc h (some ((y + 1 : Nat) : Int)) none
  rw [cut_to] at s1
  rw [cut_from] at s2
  have s2' : fSl (.val (.loc n)) (some ((y : Int) + 1)) none G = .ok (.tmp (ms.drop (y + 1))) G := s2
  have a1 := fAdd_tt (G := G) (us := ms.take y) (ws := [s]) (by rw [List.length_take]; simp; omega)
  have a2' := fAdd_tt (G := G) (us := ms.take y ++ [s]) (ws := ms.drop (y + 1)) (by rw [List.length_append, List.length_take, List.length_drop]; simp; omega)
  have hle : (ms.set y s).length ≤ 16777216 := by rw [List.length_set]; omega
  rw [splice_eq hy] at a2'
  generalize ms.take y ++ [s] = Y at *
  generalize ms.take y = X at *
  generalize ms.drop (y + 1) = V at *
  generalize ms.set y s = Z at *
  simp [s1, s2', a1, a2']
theorem fMin_int (i j : Int) (G : GH) : fMin [.val (.int i), .val (.int j)] G = .ok (.val (.int (if j < i then j else i))) G := rfl
abbrev tbl12 : List W := [.int 0, .int 0, .int 0, .int 0, .int 0, .int 0, .int 2, .int 1, .int 0, .int 0, .int 0, .int 6]
/-- the choice, and the put -/
theorem tail_eq {G : GH} {n q y k j : Nat} {t : Int} {ms es : List W} {s : W} (hq : G[q]? = some (.lst es)) (ht : tbl12[k]? = some (.int t)) (hj : (if t < (es.length : Int) - 1 then t else (es.length : Int) - 1) = j) (hs : es[j]? = some s) (h : G[n]? = some (.lst ms)) (hy : y < ms.length) (hl : ms.length ≤ 1000) (a0 a2 a3 a5 a7 : Option W) :
    (sSeq (sSet 5 (mBin fIx (mVar 4) (mBi fMin (mConsT (mBin fSub (mBi fLen (mConsT (mVar 4) mNilT)) (mC (.int 1))) (mConsT (mBin fIx (mLst (mCons (mC (.int 0)) (mCons (mC (.int 0)) (mCons (mC (.int 0)) (mCons (mC (.int 0)) (mCons (mC (.int 0)) (mCons (mC (.int 0)) (mCons (mC (.int 2)) (mCons (mC (.int 1)) (mCons (mC (.int 0)) (mCons (mC (.int 0)) (mCons (mC (.int 0)) (mCons (mC (.int 6)) mNil))))))))))))) (mVar 6)) mNilT))))) (sRet (mBin fAdd (mBin fAdd (mSl (mVar 1) mNoP (mP (mVar 8))) (mLst (mCons (mVar 5) mNil))) (mSl (mVar 1) (mP (mBin fAdd (mVar 8) (mC (.int 1)))) mNoP))))
      [a0, some (.loc n), a2, a3, some (.loc q), a5, some (.int k), a7, some (.int y)] G = .rt (.loc G.length) (G ++ [.lst (ms.set y s)]) := by
  have e1 := fIx_tmp (G := G) ht
  have e2 := fLen_loc hq
  have e3 := fMin_int ((es.length : Int) - 1) t G
  rw [hj] at e3
  have e4 := fIx_loc (k := j) hq hs
  rw [seq_nx (τ1 := [a0, some (.loc n), a2, a3, some (.loc q), some s, some (.int k), a7, some (.int y)]) (G1 := G) (by
    simp [e1, e2, e3, e4])]
  exact put_row h hy hl a0 a2 a3 (some (.loc q)) (some (.int k)) a7
end Lk08
set_option Elab.async false
set_option linter.all false
set_option maxRecDepth 100000
set_option maxHeartbeats 4000000
namespace Lk08
open PySem PySem.Spec PyProof.Rows L2 Sy
theorem in_711 {k : Nat} (hk : k < 12) (G : GH) : fIn (.val (.int k)) (.val (.tup [.int 7, .int 11])) G = .ok (.val (.bl (decide (k = 7 ∨ k = 11)))) G := by
  have : k = 0 ∨ k = 1 ∨ k = 2 ∨ k = 3 ∨ k = 4 ∨ k = 5 ∨ k = 6 ∨ k = 7 ∨ k = 8 ∨ k = 9 ∨ k = 10 ∨ k = 11 := by omega
  rcases this with rfl | rfl | rfl | rfl | rfl | rfl | rfl | rfl | rfl | rfl | rfl | rfl <;> rfl
theorem tbl_at {k : Nat} (hk : k < 12) : ∃ t : Int, 0 ≤ t ∧ tbl12[k]? = some (.int t) := by
  have : k = 0 ∨ k = 1 ∨ k = 2 ∨ k = 3 ∨ k = 4 ∨ k = 5 ∨ k = 6 ∨ k = 7 ∨ k = 8 ∨ k = 9 ∨ k = 10 ∨ k = 11 := by omega
  rcases this with rfl | rfl | rfl | rfl | rfl | rfl | rfl | rfl | rfl | rfl | rfl | rfl <;> exact ⟨_, by decide, rfl⟩
theorem repOk_zero (n : Nat) (h : n ≤ 24) : repOk "0" (n : Int) = true := by
  have : n = 0 ∨ n = 1 ∨ n = 2 ∨ n = 3 ∨ n = 4 ∨ n = 5 ∨ n = 6 ∨ n = 7 ∨ n = 8 ∨ n = 9 ∨ n = 10 ∨ n = 11 ∨ n = 12 ∨ n = 13 ∨ n = 14 ∨ n = 15 ∨ n = 16 ∨ n = 17 ∨ n = 18 ∨ n = 19 ∨ n = 20 ∨ n = 21 ∨ n = 22 ∨ n = 23 ∨ n = 24 := by omega
  rcases this with rfl | rfl | rfl | rfl | rfl | rfl | rfl | rfl | rfl | rfl | rfl | rfl | rfl | rfl | rfl | rfl | rfl | rfl | rfl | rfl | rfl | rfl | rfl | rfl | rfl <;> decide +kernel
theorem fMul_strI (x : Str) (k : Int) (G : GH) (h : repOk x k = true) : fMul (.val (.str x)) (.val (.int k)) G = .ok (.val (.str (repS x k))) G := by
  unfold fMul
  simp only [h, if_true]
@[simp] theorem mDict0_at (τ : Sl) (G : GH) : mDict0 τ G = .ok (.val (.loc G.length)) (G ++ [.dK []]) := (rfl)
theorem repW_loc {G : GH} {n : Nat} {ws : List W} {k : Nat} (h : G[n]? = some (.lst ws)) (hk : ws.length * k ≤ 16777216) (hk2 : k ≤ 1000) : fMul (.val (.loc n)) (.val (.int k)) G = .ok (.tmp (repW ws k)) G := by
  unfold fMul
  have i1 : (-(2 ^ 63) : Int) ≤ k := by
    have : (-(2 ^ 63) : Int) ≤ 0 := by decide
    omega
  have i2 : (k : Int) < 2 ^ 63 := by
    have : (1000 : Int) < 2 ^ 63 := by decide
    omega
  have : wrl (.val (.loc n)) G = some ws := by simp [h]
  simp only [this, decide_eq_true i1, decide_eq_true i2, Int.toNat_natCast, decide_eq_true hk, Bool.and_self, if_true]
theorem repW_len (ws : List W) (k : Nat) : (repW ws k).length = k * ws.length := by
  unfold repW
  induction k with
  | zero => simp
  | succ n ih => rw [List.replicate_succ, List.flatten_cons, List.length_append, ih, Nat.succ_mul]; omega
theorem repW_mem {ws : List W} {k : Nat} {w : W} (h : w ∈ repW ws k) : w ∈ ws := by
  unfold repW at h
  obtain ⟨l, h1, h2⟩ := List.mem_flatten.mp h
  rw [(List.mem_replicate.mp h1).2] at h2
  exact h2
theorem wrong_pic {G : GH} {n wide : Nat} {ms : List Nat} {pic : List (List Int)} (h : RowsAt G n ms (pic.map iW)) (g : Good pic wide) (r : Nat) : ∃ w xs, m_law_wrong_picture [.int r, .loc n] G = .ok w (G ++ xs) ∧ BadP (G ++ xs) w := by
  suffices hh : ∃ w G', b_law_wrong_picture [some (.int r), some (.loc n), none, none, none, none, none, none, none] G = .rt w G' ∧ (∃ xs, G' = G ++ xs) ∧ BadP G' w by
    obtain ⟨w, G', h1, ⟨xs, rfl⟩, h2⟩ := hh
    exact ⟨w, xs, mDef_ok _ h1, h2⟩
  have h0 := g.h0
  have h1 := g.h1
  have w0 := g.w0
  have w1 := g.w1
  have hml : (ms.map W.loc).length = pic.length := by rw [List.length_map, h.len, List.length_map]
  obtain ⟨y, hy, hyl⟩ := mod_nat ((r : Int) / 12) (m := pic.length) h0
  obtain ⟨x, hx, hxl⟩ := mod_nat ((r : Int) / 300) (m := wide) w0
  obtain ⟨k, hk, hk12⟩ := mod_nat (r : Int) (m := 12) (by decide)
  have hk' : (r : Int) % 12 = k := hk
  have l12 : Nat.log2 12 < 9000 := by decide
  have l300 : Nat.log2 300 < 9000 := by decide
  have l72 : Nat.log2 7200 < 9000 := by decide
  obtain ⟨r0, e0, f0⟩ := g.first
  obtain ⟨m0, em0, hm0⟩ := row_get h e0
  have ey : pic[y]? = some pic[y] := List.getElem?_eq_getElem hyl
  obtain ⟨my, emy, hmy⟩ := row_get h ey
  have hrl : (iW pic[y]).length = wide := by rw [List.length_map, g.row _ (List.getElem_mem hyl)]
  unfold b_law_wrong_picture
  -- the places
  have d1 := fLen_loc h.top
  rw [hml] at d1
  have d2 := fIx_loc (k := 0) h.top (by rw [List.getElem?_map, em0]; rfl : (ms.map W.loc)[0]? = some (.loc m0))
  have d3 := fLen_loc hm0
  rw [List.length_map, f0] at d3
  have d4 := fIx_loc (k := y) h.top (by rw [List.getElem?_map, emy]; rfl : (ms.map W.loc)[y]? = some (.loc my))
  have d5 : ∀ G, fMod (.val (.int ((r : Int) / 12))) (.val (.int pic.length)) G = .ok (.val (.int y)) G := fun G => by rw [fMod_int (by omega), hy]
  have d6 : ∀ G, fMod (.val (.int ((r : Int) / 300))) (.val (.int wide)) G = .ok (.val (.int x)) G := fun G => by rw [fMod_int (by omega), hx]
  have d2' : fIx (.val (.loc n)) (.val (.int 0)) G = .ok (.val (.loc m0)) G := d2
  rw [seq_nx (τ1 := [some (.int r), some (.loc n), none, none, none, none, none, none, some (.int y)]) (G1 := G) (by simp [fFdiv_int, l12, d1, d5])]
  rw [seq_nx (τ1 := [some (.int r), some (.loc n), none, none, none, none, none, some (.int x), some (.int y)]) (G1 := G) (by simp [fFdiv_int, l300, d2', d3, d6])]
  have hn1 := last_get G (.lst [.int 0])
  obtain ⟨u, hu, hix⟩ := fIx_mod (ws := [W.int 16, .int (-1), .bl true, .non, .str "0", .loc G.length, .int (10 ^ 20), .bl false]) (z := (r : Int) / 7200) (m := 8) (by decide) rfl (G ++ [.lst [.int 0]])
  obtain ⟨hu1, hu2⟩ := odd_cell hn1 u hu
  have hix' : fIx (.tmp [.int 16, .int (-1), .bl true, .non, .str "0", .loc G.length, .int (10 ^ 20), .bl false]) (.val (.int ((r : Int) / 7200 % 8))) (G ++ [.lst [.int 0]]) = .ok (.val u) (G ++ [.lst [.int 0]]) := hix
  have hp20 := fPow_20
  rw [seq_nx (τ1 := [some (.int r), some (.loc n), some u, none, none, none, none, some (.int x), some (.int y)]) (G1 := G ++ [.lst [.int 0]]) (by
    generalize (10 : Int) ^ 20 = big at *
    simp [fMod_int, fFdiv_int, l72, hp20, hix'])]
  have hmyx : ∀ xs, (G ++ [GO.lst [.int 0]] ++ xs)[my]? = some (.lst (iW pic[y])) := fun xs => get_mono (get_mono hmy _) xs
  have htx : ∀ xs, RowsAt (G ++ [GO.lst [.int 0]] ++ xs) n ms (pic.map iW) := fun xs => (h.mono _).mono xs
  have hu1x : ∀ xs, okW (G ++ [GO.lst [.int 0]] ++ xs) u := fun xs => okW_app xs hu1
  have hgx : ∀ xs, ∃ ys, G ++ [GO.lst [.int 0]] ++ xs = G ++ ys := fun xs => ⟨_, List.append_assoc ..⟩
  have d4x := fIx_loc (k := y) (h.mono [GO.lst [.int 0]]).top (by rw [List.getElem?_map, emy]; rfl : (ms.map W.loc)[y]? = some (.loc my))
  have hbase : (G ++ [GO.lst [.int 0]])[my]? = some (.lst (iW pic[y])) := get_mono hmy _
  clear hix hix' hp20 hu1 hu d1 d2 d2' d3 d4 d5 d6 hn1 hm0 hmy
  generalize G ++ [GO.lst [.int 0]] = G1 at *
  rw [seq_nx (τ1 := [some (.int r), some (.loc n), some u, some (.loc my), none, none, none, some (.int x), some (.int y)]) (G1 := G1) (by simp [d4x])]
  clear d4x
  -- what may stand there
  obtain ⟨R0, hR0⟩ : ∃ R0, R0 = iW pic[y] := ⟨_, rfl⟩
  have hR0i : ∀ w ∈ R0, ∃ i : Int, w = .int i := by
    rw [hR0]
    intro w hw
    obtain ⟨i, _, rfl⟩ := List.mem_map.mp hw
    exact ⟨i, rfl⟩
  rw [← hR0] at hmyx hbase hrl
  clear hR0
  have s1 := fSl_loc hbase none (some (x : Int))
  have s2 := fSl_loc hbase (some ((x + 1 : Nat) : Int)) none
  rw [cut_to] at s1
  rw [cut_from] at s2
  have s2' : fSl (.val (.loc my)) (some ((x : Int) + 1)) none G1 = .ok (.tmp (R0.drop (x + 1))) G1 := s2
  have a1 := fAdd_tt (G := G1) (us := R0.take x) (ws := [u]) (by rw [List.length_take]; simp; omega)
  have a2' := fAdd_tt (G := G1) (us := R0.take x ++ [u]) (ws := R0.drop (x + 1)) (by rw [List.length_append, List.length_take, List.length_drop]; simp; omega)
  rw [splice_eq (by omega)] at a2'
  have l1 : (R0.set x u).length ≤ 16777216 := by rw [List.length_set]; omega
  have b1 := fAdd_lt (us := [.int 0]) (hmyx [.lst (R0.set x u)]) (by simp; omega)
  have l2 : (R0 ++ [W.int 0]).length ≤ 16777216 := by simp; omega
  have b2 := fTuple_loc (hmyx [.lst (R0.set x u), .lst (R0 ++ [.int 0])])
  have b3 := fLen_loc (hmyx [.lst (R0.set x u), .lst (R0 ++ [.int 0])])
  rw [hrl] at b3
  have b4 := fun G => fMul_strI "0" (wide : Int) G (repOk_zero wide w1)
  have b5 := fSl_loc (hmyx [.lst (R0.set x u), .lst (R0 ++ [.int 0]), .lst []]) none (some (x : Int))
  rw [cut_to] at b5
  have l3 : (R0.take x).length ≤ 16777216 := by rw [List.length_take]; omega
  obtain ⟨z0, hz0⟩ : ∃ z0, z0 = repS "0" (wide : Int) := ⟨_, rfl⟩
  rw [← hz0] at b4
  clear hz0
  have step5 : sSet 4 (mLst (mCons (mBin fAdd (mBin fAdd (mSl (mVar 3) mNoP (mP (mVar 7))) (mLst (mCons (mVar 2) mNil))) (mSl (mVar 3) (mP (mBin fAdd (mVar 7) (mC (.int 1)))) mNoP)) (mCons (mBin fAdd (mVar 3) (mLst (mCons (mC (.int 0)) mNil))) (mCons (mBi fTuple (mConsT (mVar 3) mNilT)) (mCons (mC .non) (mCons (mBin fMul (mC (.str "0")) (mBi fLen (mConsT (mVar 3) mNilT))) (mCons (mLst mNil) (mCons (mSl (mVar 3) mNoP (mP (mVar 7))) mNil)))))))) [some (.int r), some (.loc n), some u, some (.loc my), none, none, none, some (.int x), some (.int y)] G1 =
      .nx [some (.int r), some (.loc n), some u, some (.loc my), some (.loc (G1.length + 4)), none, none, some (.int x), some (.int y)] (G1 ++ [.lst (R0.set x u), .lst (R0 ++ [.int 0]), .lst [], .lst (R0.take x), .lst [.loc G1.length, .loc (G1.length + 1), .tup R0, .non, .str z0, .loc (G1.length + 2), .loc (G1.length + 3)]]) := by
    generalize R0.take x ++ [u] = Y at *
    generalize R0.take x = X at *
    generalize R0.drop (x + 1) = V at *
    generalize R0.set x u = Z at *
    generalize R0 ++ [W.int 0] = Z2 at *
    simp [s1, s2', a1, a2', b1, b2, b3, b4, b5, l1, l2, l3]
  rw [seq_nx step5]
  clear step5 s1 s2 s2' a1 a2' b1 b2 b3 b4 b5 l1 l2 l3 hbase
  have qa : (G1 ++ [GO.lst (R0.set x u), .lst (R0 ++ [.int 0]), .lst [], .lst (R0.take x), .lst [.loc G1.length, .loc (G1.length + 1), .tup R0, .non, .str z0, .loc (G1.length + 2), .loc (G1.length + 3)]])[G1.length]? = some (.lst (R0.set x u)) := by simp
  have qb : (G1 ++ [GO.lst (R0.set x u), .lst (R0 ++ [.int 0]), .lst [], .lst (R0.take x), .lst [.loc G1.length, .loc (G1.length + 1), .tup R0, .non, .str z0, .loc (G1.length + 2), .loc (G1.length + 3)]])[G1.length + 1]? = some (.lst (R0 ++ [.int 0])) := by simp
  have qd : (G1 ++ [GO.lst (R0.set x u), .lst (R0 ++ [.int 0]), .lst [], .lst (R0.take x), .lst [.loc G1.length, .loc (G1.length + 1), .tup R0, .non, .str z0, .loc (G1.length + 2), .loc (G1.length + 3)]])[G1.length + 3]? = some (.lst (R0.take x)) := by simp
  have qs : (G1 ++ [GO.lst (R0.set x u), .lst (R0 ++ [.int 0]), .lst [], .lst (R0.take x), .lst [.loc G1.length, .loc (G1.length + 1), .tup R0, .non, .str z0, .loc (G1.length + 2), .loc (G1.length + 3)]])[G1.length + 4]? = some (.lst [.loc G1.length, .loc (G1.length + 1), .tup R0, .non, .str z0, .loc (G1.length + 2), .loc (G1.length + 3)]) := by simp
  have hT := htx [.lst (R0.set x u), .lst (R0 ++ [.int 0]), .lst [], .lst (R0.take x), .lst [.loc G1.length, .loc (G1.length + 1), .tup R0, .non, .str z0, .loc (G1.length + 2), .loc (G1.length + 3)]]
  have hU := hu1x [.lst (R0.set x u), .lst (R0 ++ [.int 0]), .lst [], .lst (R0.take x), .lst [.loc G1.length, .loc (G1.length + 1), .tup R0, .non, .str z0, .loc (G1.length + 2), .loc (G1.length + 3)]]
  have hG := hgx [.lst (R0.set x u), .lst (R0 ++ [.int 0]), .lst [], .lst (R0.take x), .lst [.loc G1.length, .loc (G1.length + 1), .tup R0, .non, .str z0, .loc (G1.length + 2), .loc (G1.length + 3)]]
  clear hmyx htx hu1x hgx
  generalize G1 ++ [GO.lst (R0.set x u), .lst (R0 ++ [.int 0]), .lst [], .lst (R0.take x), .lst [.loc G1.length, .loc (G1.length + 1), .tup R0, .non, .str z0, .loc (G1.length + 2), .loc (G1.length + 3)]] = G2 at *
  generalize G1.length = a at *
  rw [seq_nx (τ1 := [some (.int r), some (.loc n), some u, some (.loc my), some (.loc (a + 4)), none, some (.int k), some (.int x), some (.int y)]) (G1 := G2) (by simp [fMod_int, hk'])]
  have d1 := fLen_loc hT.top
  rw [hml] at d1
  have hin := in_711 hk12 G2
  have okset : ∀ xs, okR (G2 ++ xs) (.loc a) ∧ cellsB (G2 ++ xs) (.loc a) = false := fun xs => by
    have q := get_mono qa xs
    refine ⟨⟨okW_list q, rfl, fun cs e => ?_⟩, ?_⟩
    · rw [lstOf_loc q] at e
      cases e
      refine ⟨by rw [List.length_set]; omega, fun c hc => ?_⟩
      rcases List.mem_or_eq_of_mem_set hc with z | z
      · obtain ⟨i, rfl⟩ := hR0i c z
        rfl
      · rw [z]
        exact okW_app xs hU
    · unfold cellsB
      rw [lstOf_loc q]
      dsimp only
      rw [List.all_eq_false]
      exact ⟨u, List.mem_of_getElem? (i := x) (List.getElem?_set_self (by omega)), by rw [hu2]; exact Bool.false_ne_true⟩
  have oktail : ∀ (xs : GH) (t : List W), (∀ w ∈ t, ∃ i : Int, w = .int i) → t.length ≤ 1000 → ∀ m, (G2 ++ xs)[m]? = some (.lst t) → okR (G2 ++ xs) (.loc m) ∧ lenOf (G2 ++ xs) (.loc m) = t.length := fun xs t ht hl m q =>
    ⟨⟨okW_list q, rfl, fun cs e => by
      rw [lstOf_loc q] at e
      cases e
      exact ⟨by omega, fun c hc => by obtain ⟨i, rfl⟩ := ht c hc; rfl⟩⟩, by unfold lenOf; rw [lstOf_loc q]⟩
  have done : ∀ (s : W) (xs : GH), okR (G2 ++ xs ++ [.lst ((ms.map W.loc).set y s)]) s → (cellsB (G2 ++ xs ++ [.lst ((ms.map W.loc).set y s)]) s = false ∨ (lenOf (G2 ++ xs ++ [.lst ((ms.map W.loc).set y s)]) s ≠ wide ∧ 2 ≤ pic.length)) → BadP (G2 ++ xs ++ [.lst ((ms.map W.loc).set y s)]) (.loc (G2 ++ xs).length) := fun s xs h1 h2 =>
    bad_splice (((hT.mono xs).mono _)) g hyl h1 h2 (last_get _ _)
  have hG' : ∀ xs, ∃ ys, G2 ++ xs = G ++ ys := fun xs => by
    obtain ⟨ys, e⟩ := hG
    exact ⟨ys ++ xs, by rw [e, List.append_assoc]⟩
  have hyw : y < (ms.map W.loc).length := by omega
  have hlw : (ms.map W.loc).length ≤ 1000 := by omega
  by_cases c : k < 6 ∨ (pic.length = 1 ∧ (k = 7 ∨ k = 11))
  · -- the first alone
    have hcond : (mOr (mB (mBin fLt (mVar 6) (mC (.int 6)))) (mAnd (mB (mBin fEq (mBi fLen (mConsT (mVar 1) mNilT)) (mC (.int 1)))) (mB (mBin fIn (mVar 6) (mTup (mCons (mC (.int 7)) (mCons (mC (.int 11)) mNil))))))) [some (.int r), some (.loc n), some u, some (.loc my), some (.loc (a + 4)), none, some (.int k), some (.int x), some (.int y)] G2 = .ok true G2 := by
      by_cases c1 : k < 6
      · have : (k : Int) < 6 := by omega
        simp [this]
      · have q1 : ¬ (k : Int) < 6 := by omega
        rcases c with c | ⟨c2, c3⟩
        · exact absurd c c1
        · rw [c2] at d1
          simp [q1, d1, hin, c3]
    rw [seq_yes hcond]
    have sl := fSl_loc qs none (some ((1 : Nat) : Int))
    rw [cut_to] at sl
    have sl' : fSl (.val (.loc (a + 4))) none (some 1) G2 = .ok (.tmp [.loc a]) G2 := sl
    rw [seq_nx (τ1 := [some (.int r), some (.loc n), some u, some (.loc my), some (.loc G2.length), none, some (.int k), some (.int x), some (.int y)]) (G1 := G2 ++ [.lst [.loc a]]) (by simp [sl'])]
    have k8 : ¬ (k : Int) = 8 := by omega
    have k9 : ¬ (k : Int) = 9 := by omega
    have k10 : ¬ (k : Int) = 10 := by omega
    rw [seq_no (G1 := G2 ++ [.lst [.loc a]]) (by simp [k8]), seq_no (G1 := G2 ++ [.lst [.loc a]]) (by simp [k9]), seq_no (G1 := G2 ++ [.lst [.loc a]]) (by simp [k10])]
    obtain ⟨t, ht0, ht⟩ := tbl_at hk12
    refine ⟨_, _, tail_eq (last_get G2 (.lst [.loc a])) ht (j := 0) (by
      show (if t < ((1 : Nat) : Int) - 1 then t else ((1 : Nat) : Int) - 1) = ((0 : Nat) : Int)
      rw [if_neg (by omega)]
      rfl) rfl (get_mono hT.top _) hyw hlw _ _ _ _ _, ?_, ?_⟩
    · rw [List.append_assoc]
      exact hG' _
    · obtain ⟨o1, o2⟩ := okset ([.lst [.loc a]] ++ [.lst ((ms.map W.loc).set y (.loc a))])
      rw [← List.append_assoc] at o1 o2
      exact done _ _ o1 (.inl o2)
  · have hcond : (mOr (mB (mBin fLt (mVar 6) (mC (.int 6)))) (mAnd (mB (mBin fEq (mBi fLen (mConsT (mVar 1) mNilT)) (mC (.int 1)))) (mB (mBin fIn (mVar 6) (mTup (mCons (mC (.int 7)) (mCons (mC (.int 11)) mNil))))))) [some (.int r), some (.loc n), some u, some (.loc my), some (.loc (a + 4)), none, some (.int k), some (.int x), some (.int y)] G2 = .ok false G2 := by
      have q1 : ¬ (k : Int) < 6 := by omega
      by_cases c2 : pic.length = 1
      · have c3 : ¬ (k = 7 ∨ k = 11) := fun z => c (.inr ⟨c2, z⟩)
        rw [c2] at d1
        simp [q1, d1, hin, c3]
      · have q2 : ¬ (pic.length : Int) = 1 := by omega
        simp [q1, d1, q2]
    rw [seq_no hcond]
    have hk6 : k = 6 ∨ k = 7 ∨ k = 8 ∨ k = 9 ∨ k = 10 ∨ k = 11 := by omega
    have app0 : G2 = G2 ++ [] := (List.append_nil _).symm
    rcases hk6 with rfl | rfl | rfl | rfl | rfl | rfl
    · -- a tuple
      rw [seq_no (G1 := G2) (by simp), seq_no (G1 := G2) (by simp), seq_no (G1 := G2) (by simp)]
      refine ⟨_, _, tail_eq qs (t := 2) rfl (j := 2) rfl rfl hT.top hyw hlw _ _ _ _ _, hG' _, ?_⟩
      rw [app0]
      refine done _ [] ⟨rfl, rfl, fun cs e => by cases e⟩ (.inl rfl)
    · -- longer
      have h2 : 2 ≤ pic.length := by omega
      rw [seq_no (G1 := G2) (by simp), seq_no (G1 := G2) (by simp), seq_no (G1 := G2) (by simp)]
      refine ⟨_, _, tail_eq qs (t := 1) rfl (j := 1) rfl rfl hT.top hyw hlw _ _ _ _ _, hG' _, ?_⟩
      obtain ⟨o1, o2⟩ := oktail ([.lst ((ms.map W.loc).set y (.loc (a + 1)))]) (R0 ++ [.int 0]) (fun w hw => by
        rcases List.mem_append.mp hw with z | z
        · exact hR0i w z
        · rw [List.mem_singleton.mp z]
          exact ⟨0, rfl⟩) (by simp; omega) (a + 1) (get_mono qb _)
      have := done (.loc (a + 1)) [] (by rw [List.append_nil]; exact o1) (.inr ⟨by rw [List.append_nil, o2]; simp; omega, h2⟩)
      rw [List.append_nil] at this
      exact this
    · -- another thing
      have l72 : Nat.log2 7200 < 9000 := by decide
      obtain ⟨w, hw, hix⟩ := fIx_mod (ws := [W.non, .loc G2.length, .str "0", .int 5, .loc (G2.length + 1), .tup [], .tup (ms.map W.loc)]) (z := (r : Int) / 7200) (m := 7) (by decide) rfl (G2 ++ [.lst [], .dK []])
      have hix' : fIx (.tmp [.non, .loc G2.length, .str "0", .int 5, .loc (G2.length + 1), .tup [], .tup (ms.map W.loc)]) (.val (.int ((r : Int) / 7200 % 7))) (G2 ++ [.lst [], .dK []]) = .ok (.val w) (G2 ++ [.lst [], .dK []]) := hix
      have ht := fTuple_loc (hT.mono [.lst [], .dK []]).top
      have hd : (G2 ++ [GO.lst [], .dK []])[G2.length + 1]? = some (.dK []) := by simp
      have hl0 : (G2 ++ [GO.lst [], .dK []])[G2.length]? = some (.lst []) := by simp
      refine ⟨w, G2 ++ [.lst [], .dK []], ?_, hG' _, ?_⟩
      · rw [seq_yes (G1 := G2) (by simp)]
        refine seq_rt ?_
        generalize ms.map W.loc = us at *
        simp [ht, fMod_int, fFdiv_int, l72, hix']
      · simp at hw
        rcases hw with rfl | rfl | rfl | rfl | rfl | rfl | rfl
        · exact badP_flat rfl rfl rfl
        · exact bad_nil hl0
        · exact badP_flat rfl rfl rfl
        · exact badP_flat rfl rfl rfl
        · refine badP_flat ?_ rfl ?_
          · unfold okW tyOf
            dsimp only
            rw [hd]
            rfl
          · unfold lstOf
            dsimp only
            rw [hd]
        · exact badP_flat rfl rfl rfl
        · exact badP_flat rfl rfl rfl
    · -- too many
      rw [seq_no (G1 := G2) (by simp)]
      have m1 := repW_loc (k := 25) hT.top (by rw [hml]; omega) (by decide)
      have m1' : fMul (.val (.loc n)) (.val (.int 25)) G2 = .ok (.tmp (repW (ms.map W.loc) 25)) G2 := m1
      have sl : fSl (.tmp (repW (ms.map W.loc) 25)) none (some ((25 : Nat) : Int)) G2 = .ok (.tmp ((repW (ms.map W.loc) 25).take 25)) G2 := by
        rw [← cut_to]
        rfl
      have sl' : fSl (.tmp (repW (ms.map W.loc) 25)) none (some 25) G2 = .ok (.tmp ((repW (ms.map W.loc) 25).take 25)) G2 := sl
      have ll : ((repW (ms.map W.loc) 25).take 25).length = 25 := by rw [List.length_take, repW_len, hml]; omega
      refine ⟨.loc G2.length, G2 ++ [.lst ((repW (ms.map W.loc) 25).take 25)], ?_, hG' _, ?_⟩
      · rw [seq_yes (G1 := G2) (by simp)]
        refine seq_rt ?_
        generalize (repW (ms.map W.loc) 25).take 25 = X at *
        generalize repW (ms.map W.loc) 25 = Y at *
        simp [m1', sl']
      · refine bad_25 (last_get _ _) ll fun w hw => ?_
        obtain ⟨m, hm, rfl⟩ := List.mem_map.mp (repW_mem (List.mem_of_mem_take hw))
        obtain ⟨i, hi⟩ := List.mem_iff_getElem?.mp hm
        obtain ⟨rr, z1, z2⟩ := row_of hT hi
        exact okR_ints (get_mono z2 _) (by rw [g.row rr (List.mem_of_getElem? z1)]; omega)
    · -- too wide
      rw [seq_no (G1 := G2) (by simp), seq_no (G1 := G2) (by simp)]
      obtain ⟨Z, hZ⟩ : ∃ Z, Z = List.replicate 25 (W.int 0) := ⟨_, rfl⟩
      have hm25 : ∀ G, fMul (.tmp [.int 0]) (.val (.int 25)) G = .ok (.tmp Z) G := fun G => by rw [hZ]; rfl
      have hc : compF [(n, ms.map W.loc)] (gN 3) mYes (mBin fMul (mLst (mCons (mC (.int 0)) mNil)) (mC (.int 25))) [some (.int r), some (.loc n), some u, none, some (.loc (a + 4)), none, some (.int (10 : Nat)), some (.int x), some (.int y)] (ms.map W.loc) G2 = .ok (locs G2.length (ms.map W.loc).length) (G2 ++ (ms.map W.loc).map fun _ => GO.lst Z) :=
        compF_alloc (fun _ => Z) (fun xs => still_of (get_mono hT.top xs)) fun w hw xs => ⟨_, rfl, rfl, by simp [hm25]⟩
      have hc' : compF [(n, ms.map W.loc)] (gN 3) mYes (mBin fMul (mLst (mCons (mC (.int 0)) mNil)) (mC (.int 25))) [some (.int r), some (.loc n), some u, none, some (.loc (a + 4)), none, some (.int 10), some (.int x), some (.int y)] (ms.map W.loc) G2 = .ok (locs G2.length (ms.map W.loc).length) (G2 ++ (ms.map W.loc).map fun _ => GO.lst Z) := hc
      have hia := iterA_at hT.top
      have hll : (locs G2.length (ms.map W.loc).length).length = pic.length := by unfold Sy.locs; rw [List.length_map, List.length_range, hml]
      have hrow : ∀ w ∈ locs G2.length (ms.map W.loc).length, ∃ j, w = .loc j ∧ ∀ xs, (G2 ++ ((ms.map W.loc).map fun _ => GO.lst Z) ++ xs)[j]? = some (.lst Z) := fun w hw => by
        unfold Sy.locs at hw
        obtain ⟨i, hi, rfl⟩ := List.mem_map.mp hw
        have hi' := List.mem_range.mp hi
        refine ⟨_, rfl, fun xs => get_mono ?_ xs⟩
        rw [List.getElem?_append_right (by omega), show G2.length + i - G2.length = i by omega, List.getElem?_map, List.getElem?_eq_getElem hi']
        rfl
      have hZi : ∀ w ∈ Z, ∃ i : Int, w = .int i := fun w hw => by
        rw [hZ] at hw
        exact ⟨0, (List.mem_replicate.mp hw).2⟩
      have hZl : Z.length = 25 := by rw [hZ]; simp
      clear hZ hc
      refine ⟨.loc (G2 ++ (ms.map W.loc).map fun _ => GO.lst Z).length, G2 ++ ((ms.map W.loc).map fun _ => GO.lst Z) ++ [.lst (locs G2.length (ms.map W.loc).length)], ?_, ?_, ?_⟩
      · rw [seq_yes (G1 := G2) (by simp)]
        refine seq_rt ?_
        have hle : (locs G2.length (ms.map W.loc).length).length ≤ 16777216 := by omega
        generalize locs G2.length (ms.map W.loc).length = X at *
        generalize (G2 ++ (ms.map W.loc).map fun _ => GO.lst Z) = G3 at *
        have hl9 : (ms.map W.loc).length ≤ 16777216 := by omega
        generalize ms.map W.loc = us at *
        simp [mComp_at, miA_at, hia, wipeS, hl9, hc']
      · rw [List.append_assoc]
        exact hG' _
      · refine badp_wide (last_get _ _) (by omega) (by omega) fun w hw => ?_
        obtain ⟨j, rfl, hj⟩ := hrow w hw
        have hj := hj [.lst (locs G2.length (ms.map W.loc).length)]
        refine ⟨⟨okW_list hj, rfl, fun cs e => ?_⟩, ?_⟩
        · rw [lstOf_loc hj] at e
          cases e
          exact ⟨by omega, fun c hc => by obtain ⟨i, rfl⟩ := hZi c hc; rfl⟩
        · unfold lenOf
          rw [lstOf_loc hj]
          exact hZl
    · -- shorter
      have h2 : 2 ≤ pic.length := by omega
      rw [seq_no (G1 := G2) (by simp), seq_no (G1 := G2) (by simp), seq_no (G1 := G2) (by simp)]
      refine ⟨_, _, tail_eq qs (t := 6) rfl (j := 6) rfl rfl hT.top hyw hlw _ _ _ _ _, hG' _, ?_⟩
      obtain ⟨o1, o2⟩ := oktail ([.lst ((ms.map W.loc).set y (.loc (a + 3)))]) (R0.take x) (fun w hw => hR0i w (List.mem_of_mem_take hw)) (by rw [List.length_take]; omega) (a + 3) (get_mono qd _)
      have := done (.loc (a + 3)) [] (by rw [List.append_nil]; exact o1) (.inr ⟨by rw [List.append_nil, o2, List.length_take]; omega, h2⟩)
      rw [List.append_nil] at this
      exact this
end Lk08
set_option Elab.async false
set_option linter.all false
set_option maxRecDepth 100000
set_option maxHeartbeats 4000000
namespace Lk08
open PySem PySem.Spec PyProof.Rows L2 Sy
theorem fMul_str (x : Str) (k : Int) (G : GH) (h : repOk x k = true) : fMul (.val (.str x)) (.val (.int k)) G = .ok (.val (.str (repS x k))) G := by
  unfold fMul
  simp only [h, if_true]
theorem fAdd_str (x y : Str) (G : GH) (h : x.length + y.length ≤ 16777216) : fAdd (.val (.str x)) (.val (.str y)) G = .ok (.val (.str (x ++ y))) G := by
  unfold fAdd
  simp only [h, if_true]
theorem mul0 (x : Str) (G : GH) (h : x.length ≤ 1000) : fMul (.val (.str x)) (.val (.int 0)) G = .ok (.val (.str "")) G := by
  rw [fMul_str]
  · rfl
  · unfold repOk
    simp [repS, Str.empty, Str.length]
theorem mul1 (x : Str) (G : GH) (h : x.length ≤ 1000) : fMul (.val (.str x)) (.val (.int 1)) G = .ok (.val (.str x)) G := by
  rw [fMul_str]
  · rfl
  · unfold repOk
    simp [repS]
    omega
theorem isE1 (a : Addr) (k : W) (b : Bool) (G : GH) (h : (ckW k).bind (isub it 1) = some b) : fIsE it 1 a [.val (.exn 1 a), .val k] G = .ok (.val (.bl b)) G := fIsE_ok h
theorem class_1 (a : Addr) (G : GH) : m_law_class 1 a [.exn 1 a] G = .ok (.str "value picture") G := by
  refine mDef_ok [some (.exn 1 a), none] ?_
  unfold b_law_class
  have e0 := isE1 a (.ty "ValueError") true G rfl
  have e1 := isE1 a (.cls 1) true G rfl
  have e2 := isE1 a (.cls 2) false G rfl
  have e3 := isE1 a (.cls 3) false G rfl
  have e4 := isE1 a (.cls 4) false G rfl
  have e5 := isE1 a (.cls 5) false G rfl
  have e6 := isE1 a (.cls 6) false G rfl
  have e7 := isE1 a (.cls 7) false G rfl
  have i0 : fInt [.val (.bl false)] G = .ok (.val (.int 0)) G := rfl
  have i1 : fInt [.val (.bl true)] G = .ok (.val (.int 1)) G := rfl
  have a0 : fAdd (.val (.str "value ")) (.val (.str "")) G = .ok (.val (.str "value ")) G := fAdd_str _ _ _ (by decide +kernel)
  have a1 : fAdd (.val (.str "value ")) (.val (.str "picture")) G = .ok (.val (.str "value picture")) G := fAdd_str _ _ _ (by decide +kernel)
  have a2 : fAdd (.val (.str "value picture")) (.val (.str "")) G = .ok (.val (.str "value picture")) G := fAdd_str _ _ _ (by decide +kernel)
  have m0 := mul1 "value " G (by decide +kernel)
  have m1 := mul1 "picture" G (by decide +kernel)
  have m2 := mul0 "cell" G (by decide +kernel)
  have m3 := mul0 "size" G (by decide +kernel)
  have m4 := mul0 "place" G (by decide +kernel)
  have m5 := mul0 "mask" G (by decide +kernel)
  have m6 := mul0 "rule" G (by decide +kernel)
  have m7 := mul0 "edge" G (by decide +kernel)
  rw [seq_nx (τ1 := [some (.exn 1 a), some (.str "value ")]) (G1 := G) (by simp [e0, i1, m0])]
  rw [seq_nx (τ1 := [some (.exn 1 a), some (.str "value picture")]) (G1 := G) (by simp [e1, e2, i0, i1, m1, m2, a0, a1, a2])]
  rw [seq_nx (τ1 := [some (.exn 1 a), some (.str "value picture")]) (G1 := G) (by simp [e3, e5, i0, i1, m3, m5, a0, a1, a2])]
  rw [seq_nx (τ1 := [some (.exn 1 a), some (.str "value picture")]) (G1 := G) (by simp [e4, e7, i0, i1, m4, m7, a0, a1, a2])]
  simp [e6, i0, i1, m6, a0, a1, a2]
theorem isE2 (a : Addr) (k : W) (b : Bool) (G : GH) (h : (ckW k).bind (isub it 2) = some b) : fIsE it 2 a [.val (.exn 2 a), .val k] G = .ok (.val (.bl b)) G := fIsE_ok h
theorem class_2 (a : Addr) (G : GH) : m_law_class 2 a [.exn 2 a] G = .ok (.str "value cell") G := by
  refine mDef_ok [some (.exn 2 a), none] ?_
  unfold b_law_class
  have e0 := isE2 a (.ty "ValueError") true G rfl
  have e1 := isE2 a (.cls 1) false G rfl
  have e2 := isE2 a (.cls 2) true G rfl
  have e3 := isE2 a (.cls 3) false G rfl
  have e4 := isE2 a (.cls 4) false G rfl
  have e5 := isE2 a (.cls 5) false G rfl
  have e6 := isE2 a (.cls 6) false G rfl
  have e7 := isE2 a (.cls 7) false G rfl
  have i0 : fInt [.val (.bl false)] G = .ok (.val (.int 0)) G := rfl
  have i1 : fInt [.val (.bl true)] G = .ok (.val (.int 1)) G := rfl
  have a0 : fAdd (.val (.str "value ")) (.val (.str "")) G = .ok (.val (.str "value ")) G := fAdd_str _ _ _ (by decide +kernel)
  have a1 : fAdd (.val (.str "value ")) (.val (.str "cell")) G = .ok (.val (.str "value cell")) G := fAdd_str _ _ _ (by decide +kernel)
  have a2 : fAdd (.val (.str "value cell")) (.val (.str "")) G = .ok (.val (.str "value cell")) G := fAdd_str _ _ _ (by decide +kernel)
  have m0 := mul1 "value " G (by decide +kernel)
  have m1 := mul0 "picture" G (by decide +kernel)
  have m2 := mul1 "cell" G (by decide +kernel)
  have m3 := mul0 "size" G (by decide +kernel)
  have m4 := mul0 "place" G (by decide +kernel)
  have m5 := mul0 "mask" G (by decide +kernel)
  have m6 := mul0 "rule" G (by decide +kernel)
  have m7 := mul0 "edge" G (by decide +kernel)
  rw [seq_nx (τ1 := [some (.exn 2 a), some (.str "value ")]) (G1 := G) (by simp [e0, i1, m0])]
  rw [seq_nx (τ1 := [some (.exn 2 a), some (.str "value cell")]) (G1 := G) (by simp [e1, e2, i0, i1, m1, m2, a0, a1, a2])]
  rw [seq_nx (τ1 := [some (.exn 2 a), some (.str "value cell")]) (G1 := G) (by simp [e3, e5, i0, i1, m3, m5, a0, a1, a2])]
  rw [seq_nx (τ1 := [some (.exn 2 a), some (.str "value cell")]) (G1 := G) (by simp [e4, e7, i0, i1, m4, m7, a0, a1, a2])]
  simp [e6, i0, i1, m6, a0, a1, a2]
theorem isE3 (a : Addr) (k : W) (b : Bool) (G : GH) (h : (ckW k).bind (isub it 3) = some b) : fIsE it 3 a [.val (.exn 3 a), .val k] G = .ok (.val (.bl b)) G := fIsE_ok h
theorem class_3 (a : Addr) (G : GH) : m_law_class 3 a [.exn 3 a] G = .ok (.str "value size") G := by
  refine mDef_ok [some (.exn 3 a), none] ?_
  unfold b_law_class
  have e0 := isE3 a (.ty "ValueError") true G rfl
  have e1 := isE3 a (.cls 1) false G rfl
  have e2 := isE3 a (.cls 2) false G rfl
  have e3 := isE3 a (.cls 3) true G rfl
  have e4 := isE3 a (.cls 4) false G rfl
  have e5 := isE3 a (.cls 5) false G rfl
  have e6 := isE3 a (.cls 6) false G rfl
  have e7 := isE3 a (.cls 7) false G rfl
  have i0 : fInt [.val (.bl false)] G = .ok (.val (.int 0)) G := rfl
  have i1 : fInt [.val (.bl true)] G = .ok (.val (.int 1)) G := rfl
  have a0 : fAdd (.val (.str "value ")) (.val (.str "")) G = .ok (.val (.str "value ")) G := fAdd_str _ _ _ (by decide +kernel)
  have a1 : fAdd (.val (.str "value ")) (.val (.str "size")) G = .ok (.val (.str "value size")) G := fAdd_str _ _ _ (by decide +kernel)
  have a2 : fAdd (.val (.str "value size")) (.val (.str "")) G = .ok (.val (.str "value size")) G := fAdd_str _ _ _ (by decide +kernel)
  have m0 := mul1 "value " G (by decide +kernel)
  have m1 := mul0 "picture" G (by decide +kernel)
  have m2 := mul0 "cell" G (by decide +kernel)
  have m3 := mul1 "size" G (by decide +kernel)
  have m4 := mul0 "place" G (by decide +kernel)
  have m5 := mul0 "mask" G (by decide +kernel)
  have m6 := mul0 "rule" G (by decide +kernel)
  have m7 := mul0 "edge" G (by decide +kernel)
  rw [seq_nx (τ1 := [some (.exn 3 a), some (.str "value ")]) (G1 := G) (by simp [e0, i1, m0])]
  rw [seq_nx (τ1 := [some (.exn 3 a), some (.str "value ")]) (G1 := G) (by simp [e1, e2, i0, i1, m1, m2, a0, a1, a2])]
  rw [seq_nx (τ1 := [some (.exn 3 a), some (.str "value size")]) (G1 := G) (by simp [e3, e5, i0, i1, m3, m5, a0, a1, a2])]
  rw [seq_nx (τ1 := [some (.exn 3 a), some (.str "value size")]) (G1 := G) (by simp [e4, e7, i0, i1, m4, m7, a0, a1, a2])]
  simp [e6, i0, i1, m6, a0, a1, a2]
theorem isE5 (a : Addr) (k : W) (b : Bool) (G : GH) (h : (ckW k).bind (isub it 5) = some b) : fIsE it 5 a [.val (.exn 5 a), .val k] G = .ok (.val (.bl b)) G := fIsE_ok h
theorem class_5 (a : Addr) (G : GH) : m_law_class 5 a [.exn 5 a] G = .ok (.str "value mask") G := by
  refine mDef_ok [some (.exn 5 a), none] ?_
  unfold b_law_class
  have e0 := isE5 a (.ty "ValueError") true G rfl
  have e1 := isE5 a (.cls 1) false G rfl
  have e2 := isE5 a (.cls 2) false G rfl
  have e3 := isE5 a (.cls 3) false G rfl
  have e4 := isE5 a (.cls 4) false G rfl
  have e5 := isE5 a (.cls 5) true G rfl
  have e6 := isE5 a (.cls 6) false G rfl
  have e7 := isE5 a (.cls 7) false G rfl
  have i0 : fInt [.val (.bl false)] G = .ok (.val (.int 0)) G := rfl
  have i1 : fInt [.val (.bl true)] G = .ok (.val (.int 1)) G := rfl
  have a0 : fAdd (.val (.str "value ")) (.val (.str "")) G = .ok (.val (.str "value ")) G := fAdd_str _ _ _ (by decide +kernel)
  have a1 : fAdd (.val (.str "value ")) (.val (.str "mask")) G = .ok (.val (.str "value mask")) G := fAdd_str _ _ _ (by decide +kernel)
  have a2 : fAdd (.val (.str "value mask")) (.val (.str "")) G = .ok (.val (.str "value mask")) G := fAdd_str _ _ _ (by decide +kernel)
  have m0 := mul1 "value " G (by decide +kernel)
  have m1 := mul0 "picture" G (by decide +kernel)
  have m2 := mul0 "cell" G (by decide +kernel)
  have m3 := mul0 "size" G (by decide +kernel)
  have m4 := mul0 "place" G (by decide +kernel)
  have m5 := mul1 "mask" G (by decide +kernel)
  have m6 := mul0 "rule" G (by decide +kernel)
  have m7 := mul0 "edge" G (by decide +kernel)
  rw [seq_nx (τ1 := [some (.exn 5 a), some (.str "value ")]) (G1 := G) (by simp [e0, i1, m0])]
  rw [seq_nx (τ1 := [some (.exn 5 a), some (.str "value ")]) (G1 := G) (by simp [e1, e2, i0, i1, m1, m2, a0, a1, a2])]
  rw [seq_nx (τ1 := [some (.exn 5 a), some (.str "value mask")]) (G1 := G) (by simp [e3, e5, i0, i1, m3, m5, a0, a1, a2])]
  rw [seq_nx (τ1 := [some (.exn 5 a), some (.str "value mask")]) (G1 := G) (by simp [e4, e7, i0, i1, m4, m7, a0, a1, a2])]
  simp [e6, i0, i1, m6, a0, a1, a2]
open N5
theorem bor_nat (a b : Nat) : Builtin.bitOr (a : Int) (b : Int) = ((a ||| b : Nat) : Int) := by
  have e2 : ∀ z : Int, Builtin.bitNot z = -z - 1 := fun n => rfl
  have h1 : decide (0 ≤ -(a : Int) - 1) = false := decide_eq_false (by omega)
  have h2 : decide (0 ≤ -(b : Int) - 1) = false := decide_eq_false (by omega)
  have e3 : ∀ n : Nat, (-(-(n : Int) - 1) - 1).toNat = n := fun n => by omega
  unfold Builtin.bitOr
  rw [e2 (a : Int), e2 (b : Int)]
  unfold Builtin.bitAnd
  rw [h1, h2]
  simp only [e2]
  rw [e3, e3]
  omega
theorem or_plus (c d : Nat) (h : c &&& d = 0) : c ||| d = c + d := by
  have e := bitOr_and (c : Int) (d : Int)
  rw [bor_nat, band_nat, h] at e
  omega
theorem xor_eq (a b : Nat) : a ||| b = (a ^^^ b) + (a &&& b) := by
  rw [← or_plus]
  · refine Nat.eq_of_testBit_eq fun i => ?_
    simp only [Nat.testBit_or, Nat.testBit_xor, Nat.testBit_and]
    cases a.testBit i <;> cases b.testBit i <;> rfl
  · refine Nat.eq_of_testBit_eq fun i => ?_
    simp only [Nat.testBit_xor, Nat.testBit_and, Nat.zero_testBit]
    cases a.testBit i <;> cases b.testBit i <;> rfl
theorem bxor_nat (a b : Nat) : Builtin.bitXor (a : Int) (b : Int) = ((a ^^^ b : Nat) : Int) := by
  have e1 := bitXor_and (a : Int) (b : Int)
  have e2 := bitOr_and (a : Int) (b : Int)
  have e3 := xor_eq a b
  rw [band_nat] at e1 e2
  rw [bor_nat] at e2
  omega
open N7 N6
/-! two masks, row by row -/
theorem iterZ_tup (ws us : List W) (G : GH) : iterZ [.val (.tup ws), .val (.tup us)] G = .ok (zipW ws us, []) G := rfl
theorem zip_nW (rows us : List Nat) : zipW (nW rows) (nW us) = (rows.zip us).map fun p => W.tup [.int (p.1 : Nat), .int (p.2 : Nat)] := by
  unfold zipW nW
  rw [List.zip_map, List.map_map]
  rfl
theorem zipWith_nW (op : Nat → Nat → Nat) (rows us : List Nat) : ((rows.zip us).map fun p => W.int (op p.1 p.2 : Nat)) = nW (List.zipWith op rows us) := by
  unfold nW
  rw [List.map_zipWith, List.zip, List.map_zipWith]
theorem zipped {wide : Nat} {rows us : List Nat} (e : M T) (op : Nat → Nat → Nat) (he : ∀ (a b : Nat) w1 w2 G, e [w1, w2, some (.int a), some (.int b)] G = .ok (.val (.int (op a b : Nat))) G) (g1 : GoodM wide rows) (g2 : GoodM wide us) (hl : us.length = rows.length) (G : GH) :
    (sSeq (sDrop (mCall m_need_masks [] (mCons (mLst (mCons (mVar 0) (mCons (mVar 1) mNil))) mNil))) (sRet (mTup (mCons (mBin fIx (mVar 0) (mC (.int 0))) (mCons (mBi fTuple (mConsT (mComp (miB iterZ (mConsT (mBin fIx (mVar 0) (mC (.int 1))) (mConsT (mBin fIx (mVar 1) (mC (.int 1))) mNilT))) (gT (gC (gN 2) (gC (gN 3) gE))) mYes e [2, 3]) mNilT)) mNil)))))
      [some (mk wide rows), some (mk wide us), none, none] G = .rt (mk wide (List.zipWith op rows us)) (G ++ [.lst [mk wide rows, mk wide us]]) := by
  have hn := need_masks_good (G := G ++ [.lst [mk wide rows, mk wide us]]) (n := G.length) (wide := wide) (rows0 := rows) (ms := [rows, us]) (by simp) rfl (by
    intro r hr
    simp at hr
    rcases hr with rfl | rfl
    · exact ⟨g1, rfl⟩
    · exact ⟨g2, hl⟩)
  rw [seq_nx (τ1 := [some (mk wide rows), some (mk wide us), none, none]) (G1 := G ++ [.lst [mk wide rows, mk wide us]]) (by
    generalize mk wide rows = m at *
    generalize mk wide us = m2 at *
    simp [hn])]
  generalize G ++ [GO.lst [mk wide rows, mk wide us]] = G1
  have hc : compF [] (gT (gC (gN 2) (gC (gN 3) gE))) mYes e [some (mk wide rows), some (mk wide us), none, none] (zipW (nW rows) (nW us)) G1 = .ok (nW (List.zipWith op rows us)) G1 := by
    rw [zip_nW, ← zipWith_nW]
    refine compF_paired (F := fun p : Nat × Nat => W.int (op p.1 p.2 : Nat)) still_nil ?_
    refine paired_map ?_
    refine paired_of rfl fun i x y e1 e2 => ?_
    rw [e1] at e2
    cases e2
    refine ⟨_, rfl, rfl, ?_⟩
    show (e [some (mk wide rows), some (mk wide us), some (.int x.1), some (.int x.2)] G1).bind force = _
    rw [he]
    rfl
  have hz : (zipW (nW rows) (nW us)).length ≤ 16777216 := by
    rw [zip_nW]
    simp
    have := g1.h1
    omega
  have hl2 : (nW (List.zipWith op rows us)).length ≤ 16777216 := by
    simp
    have := g1.h1
    omega
  have hzz := iterZ_tup (nW rows) (nW us) G1
  unfold mk at hc ⊢
  generalize nW (List.zipWith op rows us) = vs at *
  generalize zipW (nW rows) (nW us) = zs at *
  generalize nW rows = ws at *
  generalize nW us = xs at *
  simp [mComp_at, miB_at, wipeS, hzz, hz, hc, fTuple]
theorem zipWith_good {wide : Nat} {rows us : List Nat} {op : Nat → Nat → Nat} (ho : ∀ a b, a < 2 ^ wide → b < 2 ^ wide → op a b < 2 ^ wide) (g1 : GoodM wide rows) (g2 : GoodM wide us) (hl : us.length = rows.length) : GoodM wide (List.zipWith op rows us) :=
  ⟨g1.w0, g1.w1, by rw [List.length_zipWith, hl, Nat.min_self]; exact g1.h0, by rw [List.length_zipWith, hl, Nat.min_self]; exact g1.h1, fun r hr => by
    obtain ⟨i, hi⟩ := List.mem_iff_getElem?.mp hr
    rw [List.getElem?_zipWith] at hi
    cases e1 : rows[i]? with
    | none => rw [e1] at hi; cases hi
    | some a =>
      cases e2 : us[i]? with
      | none => rw [e1, e2] at hi; cases hi
      | some b =>
        rw [e1, e2] at hi
        cases hi
        exact ho a b (g1.row a (List.mem_of_getElem? e1)) (g2.row b (List.mem_of_getElem? e2))⟩
section
variable {wide : Nat} {rows us : List Nat}
theorem both_eq (g1 : GoodM wide rows) (g2 : GoodM wide us) (hl : us.length = rows.length) (G : GH) : m_both_masks [mk wide rows, mk wide us] G = .ok (mk wide (List.zipWith (opN 0) rows us)) (G ++ [.lst [mk wide rows, mk wide us]]) :=
  mDef_ok [some (mk wide rows), some (mk wide us), none, none] (zipped _ (opN 0) (fun a b w1 w2 G => by simp [band_nat, opN]) g1 g2 hl G)
theorem either_eq (g1 : GoodM wide rows) (g2 : GoodM wide us) (hl : us.length = rows.length) (G : GH) : m_either_mask [mk wide rows, mk wide us] G = .ok (mk wide (List.zipWith (opN 1) rows us)) (G ++ [.lst [mk wide rows, mk wide us]]) :=
  mDef_ok [some (mk wide rows), some (mk wide us), none, none] (zipped _ (opN 1) (fun a b w1 w2 G => by simp [bor_nat, opN]) g1 g2 hl G)
theorem one_eq (g1 : GoodM wide rows) (g2 : GoodM wide us) (hl : us.length = rows.length) (G : GH) : m_one_mask [mk wide rows, mk wide us] G = .ok (mk wide (List.zipWith (opN 2) rows us)) (G ++ [.lst [mk wide rows, mk wide us]]) :=
  mDef_ok [some (mk wide rows), some (mk wide us), none, none] (zipped _ (opN 2) (fun a b w1 w2 G => by simp [bxor_nat, opN]) g1 g2 hl G)
end
end Lk08
set_option Elab.async false
set_option linter.all false
set_option maxRecDepth 100000
set_option maxHeartbeats 4000000
namespace Lk08
open PySem PySem.Spec PyProof.Rows L2 Sy
/-! what is no mask -/
def Bad (G : GH) (w : W) : Prop := ∀ xs, m_is_mask [w] (G ++ xs) = .ok (.bl false) (G ++ xs)
theorem Bad.mono {G : GH} {w : W} (h : Bad G w) (xs : GH) : Bad (G ++ xs) w := fun ys => by
  rw [List.append_assoc]; exact h _
theorem bad_type {G : GH} {w : W} {a : String} (h : tyOf G (.val w) = some a) (ha : subTy a "tuple" = some false) : m_is_mask [w] G = .ok (.bl false) G := by
  refine mDef_ok [some w, none] ?_
  unfold b_is_mask
  rw [seq_yes (G1 := G) (by simp [isi_of h ha])]
  simp
theorem bad_len {G : GH} {ws : List W} (h : ws.length ≠ 2) : m_is_mask [.tup ws] G = .ok (.bl false) G := by
  refine mDef_ok [some (.tup ws), none] ?_
  unfold b_is_mask
  have : ¬ ((ws.length : Int) = 2) := by omega
  rw [seq_yes (G1 := G) (by simp [this])]
  simp
theorem bad_wide {G : GH} {u v : W} (hu : okW G u) (h : amongW 1 24 u = false) : m_is_mask [.tup [u, v]] G = .ok (.bl false) G := by
  refine mDef_ok [some (.tup [u, v]), none] ?_
  unfold b_is_mask
  have e := among_eq hu 1 24
  rw [h] at e
  rw [seq_yes (G1 := G) (by simp [e])]
  simp
theorem wide_ok {wide : Nat} (w0 : 0 < wide) (w1 : wide ≤ 24) (G : GH) : m_is_among [.int wide, .int 1, .int 24] G = .ok (.bl true) G := by
  have e1 := among_eq (okW_int G wide) 1 24
  rw [show amongW 1 24 (.int wide) = true by simp [amongW]; omega] at e1
  exact e1
theorem bad_rows {G : GH} {wide : Nat} {v : W} {a : String} (w0 : 0 < wide) (w1 : wide ≤ 24) (h : tyOf G (.val v) = some a) (ha : subTy a "tuple" = some false) : m_is_mask [.tup [.int wide, v]] G = .ok (.bl false) G := by
  refine mDef_ok [some (.tup [.int wide, v]), none] ?_
  unfold b_is_mask
  have e := wide_ok w0 w1 G
  rw [seq_no (G1 := G) (by simp [e])]
  rw [seq_yes (G1 := G) (by simp [isi_of h ha])]
  simp
theorem bad_high {G : GH} {wide : Nat} {ws : List W} (w0 : 0 < wide) (w1 : wide ≤ 24) (h : ws.length = 0 ∨ 24 < ws.length) : m_is_mask [.tup [.int wide, .tup ws]] G = .ok (.bl false) G := by
  refine mDef_ok [some (.tup [.int wide, .tup ws]), none] ?_
  unfold b_is_mask
  have e := wide_ok w0 w1 G
  rw [seq_no (G1 := G) (by simp [e])]
  rw [seq_yes (G1 := G) (by
    by_cases h1 : (1 : Int) ≤ ws.length
    · have h2 : ¬ (ws.length : Int) ≤ 24 := by omega
      simp [h1, h2]
    · simp [h1])]
  simp
theorem bad_cell {G : GH} {wide : Nat} {ws : List W} (w0 : 0 < wide) (w1 : wide ≤ 24) (h0 : 0 < ws.length) (h1 : ws.length ≤ 24) (hok : ∀ w ∈ ws, okW G w) (h : ws.all (amongW 0 (pw wide - 1)) = false) : m_is_mask [.tup [.int wide, .tup ws]] G = .ok (.bl false) G := by
  refine mDef_ok [some (.tup [.int wide, .tup ws]), none] ?_
  unfold b_is_mask
  have e := wide_ok w0 w1 G
  have i1 : (1 : Int) ≤ ws.length := by omega
  have i2 : (ws.length : Int) ≤ 24 := by omega
  rw [seq_no (G1 := G) (by simp [e])]
  rw [seq_no (G1 := G) (by simp [i1, i2])]
  have hs := shl_one wide (by omega)
  have hc : compF [] (gN 1) mYes (mCall m_is_among [] (mCons (mVar 1) (mCons (mC (.int 0)) (mCons (mBin fSub (mBin fShl (mC (.int 1)) (mBin fIx (mVar 0) (mC (.int 0)))) (mC (.int 1))) mNil)))) [some (.tup [.int wide, .tup ws]), none] ws G = .ok (ws.map (W.bl ∘ amongW 0 (pw wide - 1))) G := by
    refine compF_map (W.bl ∘ amongW 0 (pw wide - 1)) still_nil fun w hw => ⟨_, rfl, rfl, ?_⟩
    have e2 := among_eq (hok w hw) 0 (pw wide - 1)
    simp [hs, e2]
  have hall := fAll_tmp (ws.map (amongW 0 (pw wide - 1))) G
  rw [List.map_map] at hall
  have e3 : (ws.map (amongW 0 (pw wide - 1))).all id = false := by
    rw [List.all_map]; exact h
  rw [e3] at hall
  generalize ws.map (W.bl ∘ amongW 0 (pw wide - 1)) = L at *
  simp [mComp_at, miA_at, wipeS, show ws.length ≤ 16777216 by omega, hc, hall]
theorem fPow_30 (G : GH) : fPow (.val (.int 10)) (.val (.int 30)) G = .ok (.val (.int (10 ^ 30))) G := rfl
theorem odd_row (wide : Nat) (w1 : wide ≤ 24) (z : Int) : ∃ w, (∀ G, okW G w) ∧ amongW 0 (pw wide - 1) w = false ∧ ∀ G, fIx (.tmp [.int (pw wide), .int (-1), .bl true, .non, .str "0", .tup [.int 0], .int (10 ^ 30), .bl false]) (.val (.int (z % 8))) G = .ok (.val w) G := by
  obtain ⟨n, hn, hl⟩ := mod_nat z (m := 8) (by decide)
  have e : z % 8 = n := hn
  rw [e]
  have hp : pw wide ≤ 16777216 := by
    have := pow_le24 w1
    unfold pw
    omega
  have : n = 0 ∨ n = 1 ∨ n = 2 ∨ n = 3 ∨ n = 4 ∨ n = 5 ∨ n = 6 ∨ n = 7 := by omega
  rcases this with rfl | rfl | rfl | rfl | rfl | rfl | rfl | rfl
  · refine ⟨_, fun G => rfl, ?_, fun G => fIx_tmp (k := 0) rfl⟩
    simp only [amongW, Bool.and_eq_false_iff, decide_eq_false_iff_not]
    omega
  · exact ⟨_, fun G => rfl, rfl, fun G => fIx_tmp (k := 1) rfl⟩
  · exact ⟨_, fun G => rfl, rfl, fun G => fIx_tmp (k := 2) rfl⟩
  · exact ⟨_, fun G => rfl, rfl, fun G => fIx_tmp (k := 3) rfl⟩
  · exact ⟨_, fun G => rfl, rfl, fun G => fIx_tmp (k := 4) rfl⟩
  · exact ⟨_, fun G => rfl, rfl, fun G => fIx_tmp (k := 5) rfl⟩
  · refine ⟨_, fun G => rfl, ?_, fun G => fIx_tmp (k := 6) rfl⟩
    simp only [amongW, Bool.and_eq_false_iff, decide_eq_false_iff_not]
    right
    have : (16777216 : Int) < 10 ^ 30 := by decide
    omega
  · exact ⟨_, fun G => rfl, rfl, fun G => fIx_tmp (k := 7) rfl⟩
theorem rep25 : repW [W.int 0] 25 = List.replicate 25 (.int 0) := rfl
theorem fMul_25 (G : GH) : fMul (.val (.tup [.int 0])) (.val (.int 25)) G = .ok (.val (.tup (List.replicate 25 (.int 0)))) G := rfl
theorem fAdd_tup (xs ys : List W) (G : GH) (h : xs.length + ys.length ≤ 16777216) : fAdd (.val (.tup xs)) (.val (.tup ys)) G = .ok (.val (.tup (xs ++ ys))) G := by
  unfold fAdd
  simp only [h, if_true]
theorem fSl_tup (ws : List W) (lo hi : Option Int) (G : GH) : fSl (.val (.tup ws)) lo hi G = .ok (.val (.tup (cutW ws lo hi))) G := rfl
theorem fAdd_locT {G : GH} {L : Nat} {ws us : List W} (h : G[L]? = some (.lst ws)) (hl : ws.length + us.length ≤ 16777216) : fAdd (.val (.loc L)) (.tmp us) G = .ok (.tmp (ws ++ us)) G := by
  unfold fAdd
  simp [h, hl]
theorem fStr_small (n : Nat) (h : n ≤ 1000) (G : GH) : fStr [.val (.int n)] G = .ok (.val (.str (toString (n : Int)))) G := by
  unfold fStr
  have : (n : Int).natAbs.log2 < 1920 := by
    show n.log2 < 1920
    by_cases h0 : n = 0
    · subst h0; decide
    · have h2 : n < 2 ^ 10 := by omega
      have := (Nat.log2_lt h0).mpr h2
      omega
  simp only [this, if_true]
@[simp] theorem fList_tup (ws : List W) (G : GH) : fList [.val (.tup ws)] G = .ok (.tmp ws) G := (rfl)
theorem wrong_eq {wide : Nat} {rows : List Nat} (g : GoodM wide rows) (r : Nat) (G : GH) : ∃ w xs, m_law_wrong_mask [.int r, mk wide rows] G = .ok w (G ++ xs) ∧ Bad (G ++ xs) w := by
  have w0 := g.w0
  have w1 := g.w1
  have h0 := g.h0
  have h1 := g.h1
  obtain ⟨y, hy, hyl⟩ := mod_nat ((r : Int) / 20) (m := rows.length) h0
  obtain ⟨odd, hok, hodd, hox⟩ := odd_row wide w1 ((r : Int) / 500)
  obtain ⟨R0, hR0⟩ : ∃ R0, R0 = nW rows := ⟨_, rfl⟩
  have hRl : R0.length = rows.length := by rw [hR0]; simp
  obtain ⟨A, hA⟩ : ∃ A : W, A = .tup [.int wide, .tup (R0.take y ++ [odd] ++ R0.drop (y + 1))] := ⟨_, rfl⟩
  -- the list, in three steps
  obtain ⟨S1, hS1⟩ : ∃ S1 : List W, S1 = [A, .tup [.int wide, .loc G.length], .loc (G.length + 1), .tup [.int wide], .tup [.int wide, .tup R0, .int 0]] := ⟨_, rfl⟩
  obtain ⟨S2, hS2⟩ : ∃ S2 : List W, S2 = S1 ++ [.tup [.int 0, .tup R0], .tup [.int 25, .tup R0], .tup [.bl true, .tup [.int 0]], .tup [.non, .tup R0], .tup [.int wide, .tup []], .tup [.int wide, .tup (List.replicate 25 (.int 0))]] := ⟨_, rfl⟩
  obtain ⟨S3, hS3⟩ : ∃ S3 : List W, S3 = S2 ++ [.tup [.str (toString (wide : Int)), .tup R0], .non, .tup [], .int 5, .str "mask", .loc (G.length + 4), A, A, A] := ⟨_, rfl⟩
  have hlen1 : S1.length = 5 := by rw [hS1]; rfl
  have hlen2 : S2.length = 11 := by rw [hS2, List.length_append, hlen1]; rfl
  have hlen3 : S3.length = 20 := by rw [hS3, List.length_append, hlen2]; rfl
  obtain ⟨k, hk, hk20⟩ := mod_nat (r : Int) (m := 20) (by decide)
  have hk' : (r : Int) % 20 = k := hk
  have hget : S3[k]? = some S3[k] := List.getElem?_eq_getElem (by omega)
  obtain ⟨H, hH⟩ : ∃ H : GH, H = G ++ [.lst R0, .lst [.int wide, .tup R0], .lst S1, .lst S2, .dK [], .lst S3] := ⟨_, rfl⟩
  refine ⟨S3[k], [.lst R0, .lst [.int wide, .tup R0], .lst S1, .lst S2, .dK [], .lst S3], mDef_ok [some (.int r), some (mk wide rows), none, none, none, none, none, none] ?_, ?_⟩
  · unfold b_law_wrong_mask
    have l20 : Nat.log2 20 < 9000 := by decide
    have l500 : Nat.log2 500 < 9000 := by decide
    have hp := power_pw wide (by omega)
    have hm := fMod_int (i := (r : Int) / 20) (j := (R0.length : Int)) (G := G) (by omega)
    rw [hRl, hy] at hm
    rw [seq_nx (τ1 := [some (.int r), some (mk wide rows), none, none, some (.tup R0), none, some (.int wide), none]) (G1 := G) (by rw [hR0]; simp [mk])]
    generalize mk wide rows = m at *
    rw [seq_nx (τ1 := [some (.int r), some m, none, none, some (.tup R0), none, some (.int wide), some (.int y)]) (G1 := G) (by simp [fFdiv_int, l20, hRl, hm])]
    rw [seq_nx (τ1 := [some (.int r), some m, some (.int (pw wide)), none, some (.tup R0), none, some (.int wide), some (.int y)]) (G1 := G) (by simp [hp])]
    have hox' := hox G
    generalize pw wide = F at *
    rw [seq_nx (τ1 := [some (.int r), some m, some (.int F), some odd, some (.tup R0), none, some (.int wide), some (.int y)]) (G1 := G) (by
      simp at hox'
      simp [fFdiv_int, fMod_int, l500, fPow_30, hox'])]
    have s1 := fSl_tup R0 none (some (y : Int))
    have s2 := fSl_tup R0 (some ((y + 1 : Nat) : Int)) none
    rw [cut_to] at s1
    rw [cut_from] at s2
    have s2' : ∀ G, fSl (.val (.tup R0)) (some ((y : Int) + 1)) none G = .ok (.val (.tup (R0.drop (y + 1)))) G := s2
    have a1 := fAdd_tup (R0.take y) [odd]
    have a2 := fAdd_tup (R0.take y ++ [odd]) (R0.drop (y + 1))
    have q1 : (R0.take y).length + [odd].length ≤ 16777216 := by rw [List.length_take]; simp; omega
    have q2 : (R0.take y ++ [odd]).length + (R0.drop (y + 1)).length ≤ 16777216 := by rw [List.length_append, List.length_take, List.length_drop]; simp; omega
    have a1' := fun G => a1 G q1
    have a2' := fun G => a2 G q2
    rw [seq_nx (τ1 := [some (.int r), some m, some (.int F), some odd, some (.tup R0), some (.loc (G.length + 2)), some (.int wide), some (.int y)]) (G1 := G ++ [.lst R0, .lst [.int wide, .tup R0], .lst S1]) (by
      rw [hS1, hA]
      generalize R0.take y ++ [odd] ++ R0.drop (y + 1) = Z at *
      generalize R0.take y ++ [odd] = Y at *
      generalize R0.take y = X at *
      generalize R0.drop (y + 1) = V at *
      simp [s1, s2', a1', a2'])]
    have b1 := fAdd_locT (G := G ++ [.lst R0, .lst [.int wide, .tup R0], .lst S1]) (L := G.length + 2) (ws := S1) (us := [.tup [.int 0, .tup R0], .tup [.int 25, .tup R0], .tup [.bl true, .tup [.int 0]], .tup [.non, .tup R0], .tup [.int wide, .tup []], .tup [.int wide, .tup (List.replicate 25 (.int 0))]]) (by simp) (by simp [hlen1])
    rw [← hS2] at b1
    rw [seq_nx (τ1 := [some (.int r), some m, some (.int F), some odd, some (.tup R0), some (.loc (G.length + 3)), some (.int wide), some (.int y)]) (G1 := G ++ [.lst R0, .lst [.int wide, .tup R0], .lst S1, .lst S2]) (by
      have f25 := fMul_25
      generalize List.replicate 25 (W.int 0) = Z at *
      simp [f25, b1])]
    have c0 : fIx (.val (.loc (G.length + 3))) (.val (.int 0)) (G ++ [.lst R0, .lst [.int wide, .tup R0], .lst S1, .lst S2, .dK []]) = .ok (.val A) (G ++ [.lst R0, .lst [.int wide, .tup R0], .lst S1, .lst S2, .dK []]) := fIx_loc (k := 0) (ws := S2) (by simp) (by rw [hS2, hS1]; rfl)
    have c1 := fAdd_locT (G := G ++ [.lst R0, .lst [.int wide, .tup R0], .lst S1, .lst S2, .dK []]) (L := G.length + 3) (ws := S2) (us := [.tup [.str (toString (wide : Int)), .tup R0], .non, .tup [], .int 5, .str "mask", .loc (G.length + 4), A, A, A]) (by simp) (by simp [hlen2])
    rw [← hS3] at c1
    have c2 := fStr_small wide (by omega)
    generalize (toString (wide : Int) : Str) = sw at *
    rw [seq_nx (τ1 := [some (.int r), some m, some (.int F), some odd, some (.tup R0), some (.loc (G.length + 5)), some (.int wide), some (.int y)]) (G1 := G ++ [.lst R0, .lst [.int wide, .tup R0], .lst S1, .lst S2, .dK [], .lst S3]) (by
      simp [c2, c0, c1])]
    have c3 := fIx_loc (G := G ++ [.lst R0, .lst [.int wide, .tup R0], .lst S1, .lst S2, .dK [], .lst S3]) (n := G.length + 5) (ws := S3) (by simp) hget
    generalize S3[k] = u at *
    simp [fMod_int, hk', c3]
  · intro xs
    have g1 : (G ++ [GO.lst R0, .lst [.int wide, .tup R0], .lst S1, .lst S2, .dK [], .lst S3] ++ xs)[G.length]? = some (.lst R0) := get_mono (by simp) xs
    have g2 : (G ++ [GO.lst R0, .lst [.int wide, .tup R0], .lst S1, .lst S2, .dK [], .lst S3] ++ xs)[G.length + 1]? = some (.lst [.int wide, .tup R0]) := get_mono (by simp) xs
    have g3 : (G ++ [GO.lst R0, .lst [.int wide, .tup R0], .lst S1, .lst S2, .dK [], .lst S3] ++ xs)[G.length + 4]? = some (.dK []) := get_mono (by simp) xs
    generalize G ++ [GO.lst R0, .lst [.int wide, .tup R0], .lst S1, .lst S2, .dK [], .lst S3] ++ xs = G2 at *
    have hA' : m_is_mask [A] G2 = .ok (.bl false) G2 := by
      rw [hA]
      have hlA : (R0.take y ++ [odd] ++ R0.drop (y + 1)).length = rows.length := by
        rw [List.length_append, List.length_append, List.length_take, List.length_drop, hRl, List.length_singleton]
        omega
      refine bad_cell w0 w1 (by rw [hlA]; exact h0) (by rw [hlA]; exact h1) (fun w hw => ?_) ?_
      · rcases List.mem_append.mp hw with hw | hw
        · rcases List.mem_append.mp hw with hw | hw
          · have := List.mem_of_mem_take hw
            rw [hR0] at this
            obtain ⟨q, _, rfl⟩ := List.mem_map.mp this
            rfl
          · rw [List.mem_singleton] at hw
            rw [hw]
            exact hok _
        · have := List.mem_of_mem_drop hw
          rw [hR0] at this
          obtain ⟨q, _, rfl⟩ := List.mem_map.mp this
          rfl
      · rw [List.all_append, List.all_append, List.all_cons, hodd]
        simp
    have hS : ∀ u, S3[k]? = some u → m_is_mask [u] G2 = .ok (.bl false) G2 := by
      intro u hu
      rw [hS3, hS2, hS1] at hu
      have : k = 0 ∨ k = 1 ∨ k = 2 ∨ k = 3 ∨ k = 4 ∨ k = 5 ∨ k = 6 ∨ k = 7 ∨ k = 8 ∨ k = 9 ∨ k = 10 ∨ k = 11 ∨ k = 12 ∨ k = 13 ∨ k = 14 ∨ k = 15 ∨ k = 16 ∨ k = 17 ∨ k = 18 ∨ k = 19 := by omega
      clear hget hk hk' hlen1 hlen2 hlen3 hS1 hS2 hS3 hH
      rcases this with rfl | rfl | rfl | rfl | rfl | rfl | rfl | rfl | rfl | rfl | rfl | rfl | rfl | rfl | rfl | rfl | rfl | rfl | rfl | rfl <;> cases hu
      · exact hA'
      · exact bad_rows w0 w1 (tyOf_lst g1) (by decide)
      · exact bad_type (tyOf_lst g2) (by decide)
      · exact bad_len (by simp)
      · exact bad_len (by simp)
      · exact bad_wide rfl rfl
      · exact bad_wide rfl rfl
      · exact bad_wide rfl rfl
      · exact bad_wide rfl rfl
      · exact bad_high w0 w1 (.inl rfl)
      · exact bad_high w0 w1 (.inr (by simp))
      · exact bad_wide rfl rfl
      · exact bad_type (a := "NoneType") rfl (by decide)
      · exact bad_len (by simp)
      · exact bad_type (a := "int") rfl (by decide)
      · exact bad_type (a := "str") rfl (by decide)
      · exact bad_type (tyOf_dK g3) (by decide)
      · exact hA'
      · exact hA'
      · exact hA'
    exact hS _ hget
end Lk08
set_option Elab.async false
set_option linter.all false
set_option maxRecDepth 100000
set_option maxHeartbeats 4000000
namespace Lk08
open PySem PySem.Spec PyProof.Rows L2 Sy
open N7 N6 N5
/-! the full mask, and what a mask lacks -/
abbrev fullR (wide high : Nat) : List Nat := List.replicate high (2 ^ wide - 1)
theorem full_good {wide high : Nat} (w0 : 0 < wide) (w1 : wide ≤ 24) (h0 : 0 < high) (h1 : high ≤ 24) : GoodM wide (fullR wide high) :=
  ⟨w0, w1, by simpa using h0, by simpa using h1, fun r hr => by
    rw [(List.mem_replicate.mp hr).2]
    have : 0 < 2 ^ wide := Nat.pow_pos (by decide)
    omega⟩
theorem rep_one (w : W) (k : Nat) : repW [w] k = List.replicate k w := by
  unfold repW
  induction k with
  | zero => rfl
  | succ n ih => rw [List.replicate_succ, List.flatten_cons, ih, List.replicate_succ]; rfl
theorem fMul_one {w : W} {k : Nat} (h0 : 0 < k) (h1 : k ≤ 1000) (G : GH) : fMul (.val (.tup [w])) (.val (.int k)) G = .ok (.val (.tup (List.replicate k w))) G := by
  unfold fMul
  by_cases h : k = 1
  · subst h
    rfl
  · have : ¬ ((k : Int) = 1) := by omega
    simp only [if_neg this]
    simp [show (2 : Int) ≤ k by omega, show (k : Int) ≤ 1000 by omega, rep_one]
theorem pw_pred (wide : Nat) : pw wide - 1 = ((2 ^ wide - 1 : Nat) : Int) := by
  unfold pw
  have : 0 < 2 ^ wide := Nat.pow_pos (by decide)
  omega
theorem need_sides_eq {wide high : Nat} (w0 : 0 < wide) (w1 : wide ≤ 24) (h0 : 0 < high) (h1 : high ≤ 24) (G : GH) : m_need_sides [.int wide, .int high] G = .ok .non G := by
  refine mDef_nx [some (.int wide), some (.int high)] (τ1 := [some (.int wide), some (.int high)]) ?_
  unfold b_need_sides
  have e1 := wide_ok w0 w1 G
  have e2 := wide_ok h0 h1 G
  exact if_no (by simp [e1, e2])
theorem full_eq {wide high : Nat} (w0 : 0 < wide) (w1 : wide ≤ 24) (h0 : 0 < high) (h1 : high ≤ 24) (G : GH) : m_full_mask [.int wide, .int high] G = .ok (mk wide (fullR wide high)) G := by
  refine mDef_ok [some (.int wide), some (.int high)] ?_
  unfold b_full_mask
  rw [seq_nx (τ1 := [some (.int wide), some (.int high)]) (G1 := G) (by simp [need_sides_eq w0 w1 h0 h1])]
  have e1 := shl_one wide (by omega) G
  have e2 := fMul_one (w := .int (pw wide - 1)) (k := high) h0 (by omega) G
  have e3 : List.replicate high (W.int (pw wide - 1)) = nW (fullR wide high) := by
    unfold nW fullR
    rw [List.map_replicate, pw_pred]
  rw [e3] at e2
  unfold mk
  generalize nW (fullR wide high) = ws at *
  generalize pw wide = p at *
  simp [e1, e2]
theorem other_mask_eq {wide : Nat} {rows : List Nat} (g : GoodM wide rows) (G : GH) : ∃ xs, m_other_mask [mk wide rows] G = .ok (mk wide (List.zipWith (opN 2) rows (fullR wide rows.length))) (G ++ xs) := by
  refine ⟨[GO.lst [mk wide rows]] ++ [GO.lst [mk wide rows, mk wide (fullR wide rows.length)]], mDef_ok [some (mk wide rows)] ?_⟩
  · unfold b_other_mask
    have hn := need_masks_good (G := G ++ [.lst [mk wide rows]]) (n := G.length) (wide := wide) (rows0 := rows) (ms := [rows]) (by simp) rfl (by
      intro r hr
      simp at hr
      subst hr
      exact ⟨g, rfl⟩)
    rw [seq_nx (τ1 := [some (mk wide rows)]) (G1 := G ++ [.lst [mk wide rows]]) (by
      generalize mk wide rows = m at *
      simp [hn])]
    have e1 := full_eq g.w0 g.w1 g.h0 g.h1 (G ++ [.lst [mk wide rows]])
    have e2 := one_eq g (full_good g.w0 g.w1 g.h0 g.h1) (by simp) (G ++ [.lst [mk wide rows]])
    generalize hG1 : G ++ [GO.lst [mk wide rows]] = G1 at *
    have i1 : fIx (.val (mk wide rows)) (.val (.int 0)) G1 = .ok (.val (.int wide)) G1 := rfl
    have i2 : fIx (.val (mk wide rows)) (.val (.int 1)) G1 = .ok (.val (.tup (nW rows))) G1 := rfl
    have i3 : fLen [.val (.tup (nW rows))] G1 = .ok (.val (.int rows.length)) G1 := by simp
    generalize mk wide (List.zipWith (opN 2) rows (fullR wide rows.length)) = r at *
    generalize mk wide (fullR wide rows.length) = f at *
    generalize mk wide rows = m at *
    generalize nW rows = ws at *
    rw [show G ++ ([GO.lst [m]] ++ [GO.lst [m, f]]) = G1 ++ [GO.lst [m, f]] by rw [← List.append_assoc, hG1]]
    simp [i1, i2, i3, e1, e2]
/-! how many cells, and which -/
end Lk08
set_option Elab.async false
set_option linter.all false
set_option maxRecDepth 100000
set_option maxHeartbeats 4000000
namespace Lk08
open PySem PySem.Spec PyProof.Rows L2 Sy
/-! pictures by places -/
def tab (w h : Nat) (f : Nat → Nat → Int) : List (List Int) := (List.range h).map fun y => (List.range w).map fun x => f x y
theorem tab_len (w h : Nat) (f : Nat → Nat → Int) : (tab w h f).length = h := by simp [tab]
theorem tab_congr {w h : Nat} {f g : Nat → Nat → Int} (e : ∀ x y, x < w → y < h → f x y = g x y) : tab w h f = tab w h g :=
  List.map_congr_left fun y hy => List.map_congr_left fun x hx => e x y (List.mem_range.mp hx) (List.mem_range.mp hy)
theorem tab_get {w h y : Nat} {f : Nat → Nat → Int} (hy : y < h) : (tab w h f)[y]? = some ((List.range w).map fun x => f x y) := by
  unfold tab
  rw [List.getElem?_map, List.getElem?_range hy]
  rfl
theorem tab_of {p : List (List Int)} {wide : Nat} (hr : ∀ r ∈ p, r.length = wide) : p = tab wide p.length fun x y => (p.getD y []).getD x 0 := by
  apply List.ext_getElem?
  intro y
  by_cases hy : y < p.length
  · rw [tab_get hy, List.getElem?_eq_getElem hy]
    congr 1
    apply List.ext_getElem?
    intro x
    have hrl := hr _ (List.getElem_mem hy)
    have e1 : p.getD y [] = p[y] := by simp only [List.getD_eq_getElem?_getD, List.getElem?_eq_getElem hy, Option.getD_some]
    by_cases hx : x < wide
    · have hx' : x < p[y].length := by omega
      rw [List.getElem?_map, List.getElem?_range hx, e1, List.getElem?_eq_getElem hx', Option.map_some]
      simp only [List.getD_eq_getElem?_getD, List.getElem?_eq_getElem hx', Option.getD_some]
    · rw [List.getElem?_eq_none (by omega), List.getElem?_eq_none (by simp; omega)]
  · rw [List.getElem?_eq_none (by omega), List.getElem?_eq_none (by rw [tab_len]; omega)]
theorem tab_row_get {w x y : Nat} {f : Nat → Nat → Int} (hx : x < w) : ((List.range w).map fun x => f x y).getD x 0 = f x y := by
  simp only [List.getD_eq_getElem?_getD, List.getElem?_map, List.getElem?_range hx, Option.map_some, Option.getD_some]
theorem good_tab {w h : Nat} {f : Nat → Nat → Int} (w0 : 0 < w) (w1 : w ≤ 24) (h0 : 0 < h) (h1 : h ≤ 24) (hf : ∀ x y, x < w → y < h → 0 ≤ f x y ∧ f x y ≤ 15) : Good (tab w h f) w :=
  ⟨by rw [tab_len]; exact h0, by rw [tab_len]; exact h1, w0, w1, fun r hr => by
    unfold tab at hr
    obtain ⟨y, _, rfl⟩ := List.mem_map.mp hr
    simp, fun r hr c hc => by
    unfold tab at hr
    obtain ⟨y, hy, rfl⟩ := List.mem_map.mp hr
    obtain ⟨x, hx, rfl⟩ := List.mem_map.mp hc
    exact hf x y (List.mem_range.mp hx) (List.mem_range.mp hy)⟩
theorem good_get {p : List (List Int)} {wide x y : Nat} (g : Good p wide) (hx : x < wide) (hy : y < p.length) : 0 ≤ (p.getD y []).getD x 0 ∧ (p.getD y []).getD x 0 ≤ 15 := by
  have hrl := g.row _ (List.getElem_mem hy)
  have e1 : p.getD y [] = p[y] := by simp only [List.getD_eq_getElem?_getD, List.getElem?_eq_getElem hy, Option.getD_some]
  have hx' : x < p[y].length := by omega
  rw [e1]
  simp only [List.getD_eq_getElem?_getD, List.getElem?_eq_getElem hx', Option.getD_some]
  exact g.cell _ (List.getElem_mem hy) _ (List.getElem_mem hx')
def cf (p : List (List Int)) (x y : Nat) : Int := (p.getD y []).getD x 0
theorem cf_tab {w h x y : Nat} {f : Nat → Nat → Int} (hx : x < w) (hy : y < h) : cf (tab w h f) x y = f x y := by
  unfold cf
  rw [show (tab w h f).getD y [] = (List.range w).map fun z => f z y by rw [List.getD_eq_getElem?_getD, tab_get hy]; rfl]
  exact tab_row_get hx
theorem tab_cf {p : List (List Int)} {wide : Nat} (hr : ∀ r ∈ p, r.length = wide) : p = tab wide p.length (cf p) := tab_of hr
theorem tab_eq_iff {w h : Nat} {f g : Nat → Nat → Int} (e : ∀ x y, x < w → y < h → f x y = g x y) : tab w h f = tab w h g := tab_congr e
theorem tab_set {w h x y : Nat} {f : Nat → Nat → Int} {v : Int} (hy : y < h) : (tab w h f).set y (((List.range w).map fun z => f z y).set x v) = tab w h fun x' y' => if x' = x ∧ y' = y then v else f x' y' := by
  apply List.ext_getElem?
  intro j
  by_cases hj : j < h
  · rw [tab_get hj]
    by_cases e : y = j
    · subst e
      rw [List.getElem?_set_self (by rw [tab_len]; exact hy)]
      congr 1
      apply List.ext_getElem?
      intro i
      by_cases hi : i < w
      · rw [List.getElem?_map, List.getElem?_range hi]
        by_cases e2 : x = i
        · subst e2
          rw [List.getElem?_set_self (by simp; exact hi)]
          simp
        · rw [List.getElem?_set_ne e2, List.getElem?_map, List.getElem?_range hi]
          simp [show ¬ i = x from fun z => e2 z.symm]
      · rw [List.getElem?_eq_none (by simp; omega), List.getElem?_eq_none (by simp; omega)]
    · rw [List.getElem?_set_ne e, tab_get hj]
      congr 1
      refine List.map_congr_left fun i _ => ?_
      simp [show ¬ j = y from fun z => e z.symm]
  · rw [List.getElem?_eq_none (by rw [List.length_set, tab_len]; omega), List.getElem?_eq_none (by rw [tab_len]; omega)]
/-! pictures that were laid anew -/
theorem laidR_len (G : GH) (rows : List (List W)) : (laidR G rows).length = G.length + rows.length + 1 := by
  unfold laidR
  simp
  omega
theorem places_mem {n k m : Nat} (h : m ∈ places n k) : n ≤ m ∧ m < n + k := by
  obtain ⟨i, hi, rfl⟩ := List.mem_map.mp h
  have := List.mem_range.mp hi
  omega
def PicAt (G : GH) (n : Nat) (pic : List (List Int)) : Prop := ∃ ms, RowsAt G n ms (pic.map iW)
theorem PicAt.keep {G G' : GH} {n : Nat} {pic : List (List Int)} (h : PicAt G n pic) (k : Keeps G G') : PicAt G' n pic := by
  obtain ⟨ms, h⟩ := h
  exact ⟨ms, h.keep k⟩
theorem PicAt.eq {G : GH} {n m : Nat} {p q : List (List Int)} (h : PicAt G n p) (h2 : PicAt G m q) : fEq (.val (.loc n)) (.val (.loc m)) G = .ok (.val (.bl (decide (p = q)))) G := by
  obtain ⟨ms, h⟩ := h
  obtain ⟨ks, h2⟩ := h2
  exact h.eq h2
theorem PicAt.ne {G : GH} {n m : Nat} {p q : List (List Int)} (h : PicAt G n p) (h2 : PicAt G m q) : fNe (.val (.loc n)) (.val (.loc m)) G = .ok (.val (.bl (!decide (p = q)))) G := by
  obtain ⟨ms, h⟩ := h
  obtain ⟨ks, h2⟩ := h2
  exact h.ne h2
/-- a picture that was laid behind G -/
structure NewP (G G' : GH) (n : Nat) (pic : List (List Int)) : Prop where
  keep : Keeps G G'
  top : G.length ≤ n
  at_ : ∃ ms, RowsAt G' n ms (pic.map iW) ∧ ms.Nodup ∧ n ∉ ms ∧ ∀ m ∈ ms, G.length ≤ m
theorem NewP.pic {G G' : GH} {n : Nat} {pic : List (List Int)} (h : NewP G G' n pic) : PicAt G' n pic := by
  obtain ⟨ms, h, _⟩ := h.at_
  exact ⟨ms, h⟩
theorem newP_laid (G : GH) (pic : List (List Int)) : NewP G (laidR G (pic.map iW)) (G.length + pic.length) pic := by
  refine ⟨Keeps.app _ _, by omega, places G.length pic.length, ?_, places_nodup _ _, fun h => ?_, fun m h => (places_mem h).1⟩
  · have := laidR_rows G (pic.map iW)
    rw [List.length_map] at this
    exact this
  · have := places_mem h
    omega
theorem NewP.later {G G1 G2 : GH} {n : Nat} {pic : List (List Int)} (k : Keeps G G1) (h : NewP G1 G2 n pic) : NewP G G2 n pic := by
  obtain ⟨ms, a, b, c, d⟩ := h.at_
  have := k.len
  have := h.top
  exact ⟨k.trans h.keep, by omega, ms, a, b, c, fun m hm => by have := d m hm; omega⟩
theorem NewP.grow {G G1 G2 : GH} {n : Nat} {pic : List (List Int)} (h : NewP G G1 n pic) (k : Keeps G1 G2) : NewP G G2 n pic := by
  obtain ⟨ms, a, b, c, d⟩ := h.at_
  exact ⟨h.keep.trans k, h.top, ms, a.keep k, b, c, d⟩
theorem PicAt.old {G : GH} {n : Nat} {ms : List Nat} {rows : List (List W)} (h : RowsAt G n ms rows) : n < G.length ∧ ∀ m ∈ ms, m < G.length := by
  refine ⟨(List.getElem?_eq_some_iff.mp h.top).1, fun m hm => ?_⟩
  obtain ⟨r, _, e⟩ := paired_mem h.row m hm
  exact (List.getElem?_eq_some_iff.mp e).1
theorem copied_new {G : GH} {n : Nat} {pic : List (List Int)} (h : PicAt G n pic) (hl : pic.length ≤ 1000) : m_law_copied [.loc n] G = .ok (.loc (G.length + pic.length)) (laidR G (pic.map iW)) := by
  obtain ⟨ms, h⟩ := h
  have := copied_eq h (by rw [List.length_map]; omega)
  rw [List.length_map] at this
  exact this
/-! helpers -/
theorem paired_right {α β : Type} {P : α → β → Prop} {xs : List α} {ys : List β} (h : Paired P xs ys) {i : Nat} {x : α} (e : xs[i]? = some x) : ∃ y, ys[i]? = some y ∧ P x y := by
  have hl := h.length
  have hi : i < ys.length := by rw [← hl]; exact (List.getElem?_eq_some_iff.mp e).1
  exact ⟨_, List.getElem?_eq_getElem hi, paired_get h i _ _ e (List.getElem?_eq_getElem hi)⟩
theorem set_get {G : GH} {m j : Nat} {o : GO} (h : m < G.length) : (G.set m o)[j]? = if j = m then some o else G[j]? := by
  by_cases hj : j = m
  · subst hj; rw [if_pos rfl, List.getElem?_set_self h]
  · rw [if_neg hj, List.getElem?_set_ne fun z => hj z.symm]
theorem fIx_ints {G : GH} {m : Nat} {r : List Int} {x : Nat} (h : G[m]? = some (.lst (iW r))) (hx : x < r.length) : fIx (.val (.loc m)) (.val (.int x)) G = .ok (.val (.int (r.getD x 0))) G := by
  refine fIx_loc h ?_
  rw [List.getElem?_map, List.getElem?_eq_getElem hx]
  simp only [List.getD_eq_getElem?_getD, List.getElem?_eq_getElem hx, Option.getD_some, Option.map_some]
theorem len_row0 {G : GH} {n : Nat} {ms : List Nat} {pic : List (List Int)} {wide : Nat} (h : RowsAt G n ms (pic.map iW)) (g : Good pic wide) : ∃ m0, fIx (.val (.loc n)) (.val (.int 0)) G = .ok (.val (.loc m0)) G ∧ fLen [.val (.loc m0)] G = .ok (.val (.int wide)) G := by
  obtain ⟨r0, e0, f0⟩ := g.first
  obtain ⟨m0, em0, hm0⟩ := paired_nth h.row (by rw [List.getElem?_map, e0]; rfl : (pic.map iW)[0]? = some (iW r0))
  refine ⟨m0, fIx_loc0 h.top (by rw [List.getElem?_map, em0]; rfl), ?_⟩
  have d3 := fLen_loc hm0
  rw [List.length_map, f0] at d3
  exact d3
theorem len_pic {G : GH} {n : Nat} {ms : List Nat} {pic : List (List Int)} (h : RowsAt G n ms (pic.map iW)) : fLen [.val (.loc n)] G = .ok (.val (.int pic.length)) G := by
  have d1 := fLen_loc h.top
  rw [List.length_map, h.len, List.length_map] at d1
  exact d1
theorem row_at {G : GH} {n y : Nat} {ms : List Nat} {pic : List (List Int)} (h : RowsAt G n ms (pic.map iW)) (hy : y < pic.length) : ∃ m, ms[y]? = some m ∧ G[m]? = some (.lst (iW (pic.getD y []))) ∧ fIx (.val (.loc n)) (.val (.int y)) G = .ok (.val (.loc m)) G := by
  obtain ⟨m, em, hm⟩ := paired_nth h.row (by rw [List.getElem?_map, List.getElem?_eq_getElem hy]; rfl : (pic.map iW)[y]? = some (iW pic[y]))
  refine ⟨m, em, ?_, fIx_loc (k := y) h.top (by rw [List.getElem?_map, em]; rfl)⟩
  rw [hm]
  simp only [List.getD_eq_getElem?_getD, List.getElem?_eq_getElem hy, Option.getD_some]
theorem getD_row {pic : List (List Int)} {wide y : Nat} (g : Good pic wide) (hy : y < pic.length) : (pic.getD y []).length = wide := by
  have e1 : pic.getD y [] = pic[y] := by simp only [List.getD_eq_getElem?_getD, List.getElem?_eq_getElem hy, Option.getD_some]
  rw [e1]
  exact g.row _ (List.getElem_mem hy)
theorem need_of {G : GH} {n : Nat} {pic : List (List Int)} {wide : Nat} (h : PicAt G n pic) (g : Good pic wide) : m_need_picture [.loc n] G = .ok .non G := by
  obtain ⟨ms, h⟩ := h
  exact need_picture_good h g
theorem need_mask1 {wide : Nat} {rows : List Nat} (g : GoodM wide rows) (G : GH) : m_need_masks [.loc G.length] (G ++ [.lst [mk wide rows]]) = .ok .non (G ++ [.lst [mk wide rows]]) :=
  need_masks_good (n := G.length) (ms := [rows]) (last_get G (.lst [mk wide rows])) rfl (fun r hr => by
    have : r = rows := by simpa using hr
    rw [this]; exact ⟨g, rfl⟩)
/-! chosen rows -/
def chosenR (one other : List Int) (bits : Nat) : List Int := (List.range one.length).map fun x => if bits.testBit x then other.getD x 0 else one.getD x 0
theorem chosen_row_eq {G : GH} {a b : Nat} {r q : List Int} {bits : Nat} (ha : G[a]? = some (.lst (iW r))) (hb : G[b]? = some (.lst (iW q))) (hl : q.length = r.length) (h24 : r.length ≤ 1000) : m_chosen_row [.loc a, .loc b, .int bits] G = .ok (.loc G.length) (G ++ [.lst (iW (chosenR r q bits))]) := by
  refine mDef_ok [some (.loc a), some (.loc b), some (.int bits), none] ?_
  unfold b_chosen_row
  have hlen := fLen_loc ha
  rw [List.length_map] at hlen
  have hir := iterR_nat r.length (by omega) G
  have hl2 : (rangeW 0 r.length).length ≤ 16777216 := by rw [rangeW_len]; omega
  have hc := compF_range (g := gN 3) (c := mYes) (e := mIf (mTru (mCall m_bit_at [] (mCons (mVar 2) (mCons (mVar 3) mNil)))) (mBin fIx (mVar 1) (mVar 3)) (mBin fIx (mVar 0) (mVar 3))) (τ := [some (.loc a), some (.loc b), some (.int bits), none]) (G := G) (n := r.length) (fun x => .int (if bits.testBit x then q.getD x 0 else r.getD x 0)) fun x hx => ⟨_, rfl, rfl, by
    have h1 := bit_at_eq bits x G
    have h2 := fIx_ints ha hx
    have h3 := fIx_ints (x := x) hb (by omega)
    cases hbit : bits.testBit x with
    | true => rw [hbit] at h1; simp [h1, h3]
    | false => rw [hbit] at h1; simp [h1, h2]⟩
  have e : (List.range r.length).map (fun x => W.int (if bits.testBit x then q.getD x 0 else r.getD x 0)) = iW (chosenR r q bits) := by
    unfold chosenR
    show _ = List.map _ _
    rw [List.map_map]
    rfl
  rw [e] at hc
  generalize iW (chosenR r q bits) = L at *
  generalize rangeW 0 r.length = us at *
  simp [hlen, mComp_at, miR_at, hir, wipeS, hl2, hc]
def chosenP (p q : List (List Int)) (rows : List Nat) (wide : Nat) : List (List Int) := tab wide p.length fun x y => if (rows.getD y 0).testBit x then cf q x y else cf p x y
theorem chosenR_tab {p q : List (List Int)} {rows : List Nat} {wide y : Nat} (g : Good p wide) (hy : y < p.length) : (chosenP p q rows wide)[y]? = some (chosenR (p.getD y []) (q.getD y []) (rows.getD y 0)) := by
  unfold chosenP chosenR
  rw [tab_get hy, getD_row g hy]
  rfl
theorem chosenP_good {p q : List (List Int)} {rows : List Nat} {wide : Nat} (g : Good p wide) (g2 : Good q wide) (hl : q.length = p.length) : Good (chosenP p q rows wide) wide := by
  refine good_tab g.w0 g.w1 g.h0 g.h1 fun x y hx hy => ?_
  by_cases h : (rows.getD y 0).testBit x = true
  · rw [if_pos h]
    exact good_get g2 hx (by omega)
  · rw [if_neg h]
    exact good_get g hx hy
theorem chosenP_len {p q : List (List Int)} {rows : List Nat} {wide : Nat} : (chosenP p q rows wide).length = p.length := tab_len ..
/-- rows that a comprehension laid -/
theorem newP_rows {G G' : GH} {vs : List Nat} {pic : List (List Int)} (k : Keeps G G') (hl : vs.length = pic.length) (nd : vs.Nodup) (hb : ∀ v ∈ vs, G.length ≤ v ∧ v < G'.length) (hv : ∀ (i : Nat) v, vs[i]? = some v → ∃ r, pic[i]? = some r ∧ G'[v]? = some (.lst (iW r))) :
    NewP G (G' ++ [.lst (vs.map W.loc)]) G'.length pic := by
  have := k.len
  refine ⟨k.two _, by omega, vs, ⟨last_get _ _, paired_of (by rw [List.length_map, hl]) fun i v w e1 e2 => ?_⟩, nd, fun hm => ?_, fun m hm => (hb m hm).1⟩
  · obtain ⟨r, er, hr⟩ := hv i v e1
    rw [List.getElem?_map, er] at e2
    cases e2
    exact get_mono hr _
  · have := (hb _ hm).2
    omega
theorem need_fit_ok {G : GH} {n : Nat} {pic : List (List Int)} {wide : Nat} {rows : List Nat} (h : PicAt G n pic) (g : Good pic wide) (hl : rows.length = pic.length) : m_need_fit [.loc n, mk wide rows] G = .ok .non G := by
  obtain ⟨ms, h⟩ := h
  obtain ⟨m0, d2, d3⟩ := len_row0 h g
  have d1 := len_pic h
  refine mDef_nx [some (.loc n), some (mk wide rows)] ?_ (τ1 := [some (.loc n), some (mk wide rows)])
  unfold b_need_fit
  have e : (nW rows).length = pic.length := by rw [List.length_map, hl]
  unfold mk
  generalize nW rows = L at *
  rw [if_no (G1 := G) (by simp [d1, d2, d3, e])]
theorem need_fit_bad {G : GH} {n : Nat} {pic : List (List Int)} {wide w2 : Nat} {rows : List Nat} (h : PicAt G n pic) (g : Good pic wide) (hne : w2 ≠ wide ∨ rows.length ≠ pic.length) : m_need_fit [.loc n, mk w2 rows] G = .ex 3 [] G := by
  obtain ⟨ms, h⟩ := h
  obtain ⟨m0, d2, d3⟩ := len_row0 h g
  have d1 := len_pic h
  refine mDef_ex [some (.loc n), some (mk w2 rows)] ?_ (τ1 := [some (.loc n), some (mk w2 rows)])
  unfold b_need_fit
  have e : (nW rows).length = rows.length := by rw [List.length_map]
  unfold mk
  generalize nW rows = L at *
  by_cases hw : w2 = wide
  · have hn : rows.length ≠ pic.length := hne.resolve_left fun z => z hw
    have hn' : ¬ (rows.length : Int) = pic.length := fun z => hn (Int.natCast_inj.mp z)
    subst hw
    rw [if_yes (G1 := G) (by simp [d1, d2, d3, e, hn'])]
    rfl
  · have hw' : ¬ (w2 : Int) = wide := fun z => hw (Int.natCast_inj.mp z)
    rw [if_yes (G1 := G) (by simp [d1, d2, d3, e, hw'])]
    rfl
theorem chosen_eq {G : GH} {n m : Nat} {p q : List (List Int)} {wide : Nat} {rows : List Nat} (hp : PicAt G n p) (hq : PicAt G m q) (g : Good p wide) (g2 : Good q wide) (hl : q.length = p.length) (gm : GoodM wide rows) (hr : rows.length = p.length) :
    ∃ G' N, m_chosen_cells [.loc n, .loc m, mk wide rows] G = .ok (.loc N) G' ∧ NewP G G' N (chosenP p q rows wide) := by
  have n1 := need_of hp g
  have n2 := need_of hq g2
  have n3 := need_mask1 gm G
  have k1 : Keeps G (G ++ [.lst [mk wide rows]]) := Keeps.app _ _
  have hp1 := hp.keep k1
  have hq1 := hq.keep k1
  have n4 := need_fit_ok hp1 g hr
  generalize hX : G ++ [GO.lst [mk wide rows]] = G1 at *
  obtain ⟨ms, hR⟩ := hp1
  obtain ⟨ks, hQ⟩ := hq1
  obtain ⟨a0, d2, d3⟩ := len_row0 hR g
  obtain ⟨b0, e2, e3⟩ := len_row0 hQ g2
  have d1 := len_pic hR
  have e1 := len_pic hQ
  rw [hl] at e1
  have gh := g.h1
  obtain ⟨vs, G2, hc, k2, hvl, nd, hb, hv⟩ := compF_growX (src := []) (g := gN 3) (c := mYes) (e := mCall m_chosen_row [] (mCons (mBin fIx (mVar 0) (mVar 3)) (mCons (mBin fIx (mVar 1) (mVar 3)) (mCons (mBin fIx (mBin fIx (mVar 2) (mC (.int 1))) (mVar 3)) mNil)))) (τ := [some (.loc n), some (.loc m), some (mk wide rows), none]) (G := G1) (ws := rangeW 0 p.length) (fun G' y v => ∃ r, (chosenP p q rows wide)[y]? = some r ∧ G'[v]? = some (.lst (iW r))) (fun _ _ _ _ k ⟨r, a, b⟩ => ⟨r, a, k.get b⟩) (fun _ _ => still_nil) fun y w hw G' k => by
    obtain ⟨hy, rfl⟩ := rangeW_get hw
    rw [Int.zero_add]
    obtain ⟨a, ea, ha, ia⟩ := row_at (hR.keep k) hy
    obtain ⟨b, eb, hb, ib⟩ := row_at (hQ.keep k) (show y < q.length by omega)
    have hcr := chosen_row_eq (bits := rows.getD y 0) ha hb (by rw [getD_row g hy, getD_row g2 (by omega)]) (by rw [getD_row g hy]; have := g.w1; omega)
    have im : fIx (.val (.tup (nW rows))) (.val (.int y)) G' = .ok (.val (.int (rows.getD y 0 : Nat))) G' := by
      refine fIx_tup ?_
      have : y < rows.length := by omega
      rw [List.getElem?_map, List.getElem?_eq_getElem this]
      simp only [List.getD_eq_getElem?_getD, List.getElem?_eq_getElem this, Option.getD_some, Option.map_some]
    refine ⟨[some (.loc n), some (.loc m), some (mk wide rows), some (.int y)], _, G'.length, rfl, rfl, ?_, Keeps.app _ _, Nat.le_refl _, by simp, _, chosenR_tab g hy, last_get _ _⟩
    unfold mk
    generalize nW rows = L at *
    generalize (rows.getD y 0) = bits at *
    generalize iW (chosenR (p.getD y []) (q.getD y []) bits) = Z at *
    simp [ia, ib, im, hcr]
  rw [rangeW_len] at hvl
  have hN := newP_rows (pic := chosenP p q rows wide) k2 (by rw [hvl, chosenP_len]) nd hb hv
  refine ⟨G2 ++ [.lst (vs.map W.loc)], G2.length, ?_, hN.later k1⟩
  refine mDef_ok [some (.loc n), some (.loc m), some (mk wide rows), none] ?_
  unfold b_chosen_cells
  have hir := iterR_nat p.length (by omega) G1
  have hl2 : (rangeW 0 p.length).length ≤ 16777216 := by rw [rangeW_len]; omega
  generalize hmk : mk wide rows = M at *
  rw [seq_nx (τ1 := [some (.loc n), some (.loc m), some M, none]) (G1 := G) (by simp [n1])]
  rw [seq_nx (τ1 := [some (.loc n), some (.loc m), some M, none]) (G1 := G) (by simp [n2])]
  rw [seq_nx (τ1 := [some (.loc n), some (.loc m), some M, none]) (G1 := G1) (by simp [hX, n3])]
  rw [seq_no (G1 := G1) (by simp [d1, d2, d3, e1, e2, e3])]
  rw [seq_nx (τ1 := [some (.loc n), some (.loc m), some M, none]) (G1 := G1) (by simp [n4])]
  generalize vs.map W.loc = V at *
  generalize rangeW 0 p.length = us at *
  simp [d1, mComp_at, miR_at, hir, wipeS, hl2, hc]
end Lk08
set_option Elab.async false
set_option linter.all false
set_option maxRecDepth 100000
set_option maxHeartbeats 4000000
namespace Lk08
open PySem PySem.Spec PyProof.Rows L2 Sy
/-! painted -/
theorem cells_ok {u : W} {G : GH} (h : okW G u) (hc : cellW u = true) : m_need_cell [u] G = .ok .non G := by
  refine mDef_nx [some u] ?_ (τ1 := [some u])
  unfold b_need_cell
  have := is_cell_eq h
  rw [hc] at this
  rw [if_no (G1 := G) (by simp [this])]
theorem cells_bad {u : W} {G : GH} (h : okW G u) (hc : cellW u = false) : m_need_cell [u] G = .ex 2 [] G := by
  refine mDef_ex [some u] ?_ (τ1 := [some u])
  unfold b_need_cell
  have := is_cell_eq h
  rw [hc] at this
  rw [if_yes (G1 := G) (by simp [this])]
  rfl
theorem repT {G : GH} {ws : List W} {k : Nat} (hk : ws.length * k ≤ 16777216) (hk2 : k ≤ 1000) : fMul (.tmp ws) (.val (.int k)) G = .ok (.tmp (repW ws k)) G := by
  unfold fMul
  have i1 : (-(2 ^ 63) : Int) ≤ k := by
    have : (-(2 ^ 63) : Int) ≤ 0 := by decide
    omega
  have i2 : (k : Int) < 2 ^ 63 := by
    have : (1000 : Int) < 2 ^ 63 := by decide
    omega
  simp only [wrl_tmp, decide_eq_true i1, decide_eq_true i2, Int.toNat_natCast, decide_eq_true hk, Bool.and_self, if_true]
theorem rep_cells (c : Int) (k : Nat) : repW [W.int c] k = iW (List.replicate k c) := by
  rw [rep_one]
  simp
/-- a picture of one cell alone -/
def blankP (wide high : Nat) (c : Int) : List (List Int) := List.replicate high (List.replicate wide c)
theorem blankP_good {wide high : Nat} {c : Int} (w0 : 0 < wide) (w1 : wide ≤ 24) (h0 : 0 < high) (h1 : high ≤ 24) (c0 : 0 ≤ c) (c1 : c ≤ 15) : Good (blankP wide high c) wide := by
  unfold blankP
  refine ⟨by simpa using h0, by simpa using h1, w0, w1, fun r hr => by rw [(List.mem_replicate.mp hr).2, List.length_replicate], fun r hr v hv => ?_⟩
  rw [(List.mem_replicate.mp hr).2] at hv
  rw [(List.mem_replicate.mp hv).2]
  exact ⟨c0, c1⟩
theorem blankP_len (wide high : Nat) (c : Int) : (blankP wide high c).length = high := by simp [blankP]
theorem blankP_row {wide high y : Nat} {c : Int} (hy : y < high) : (blankP wide high c).getD y [] = List.replicate wide c := by
  unfold blankP
  rw [List.getD_eq_getElem?_getD, List.getElem?_replicate, if_pos hy]
  rfl
theorem iterZm_lt {G : GH} {n : Nat} {ws us : List W} (h : G[n]? = some (.lst ws)) : iterZm [.val (.loc n), .val (.tup us)] G = .ok (zipW ws us, [(n, ws)]) G := by
  have e : rdk (.val (.tup us)) G = some (true, us, []) := rfl
  have e1 : rdk (.val (.loc n)) G = some (false, ws, [(n, ws)]) := by
    unfold rdk srcOf
    simp [h]
  unfold iterZm
  dsimp only
  rw [e1, e]
  simp
theorem painted_eq {G : GH} {n : Nat} {p : List (List Int)} {wide : Nat} {rows : List Nat} {c : Int} (hp : PicAt G n p) (g : Good p wide) (gm : GoodM wide rows) (hr : rows.length = p.length) (c0 : 0 ≤ c) (c1 : c ≤ 15) :
    ∃ G' N, m_painted [.loc n, mk wide rows, .int c] G = .ok (.loc N) G' ∧ NewP G G' N (chosenP p (blankP wide p.length c) rows wide) := by
  have n1 := need_of hp g
  have n3 := need_mask1 gm G
  have k1 : Keeps G (G ++ [.lst [mk wide rows]]) := Keeps.app _ _
  have hp1 := hp.keep k1
  have n4 := need_fit_ok hp1 g hr
  have n5 := cells_ok (G := G ++ [.lst [mk wide rows]]) (u := .int c) rfl (by unfold cellW amongW; simp; omega)
  generalize hX : G ++ [GO.lst [mk wide rows]] = G1 at *
  obtain ⟨ms, hR⟩ := hp1
  have gh := g.h1
  have gw := g.w1
  have g2 : Good (blankP wide p.length c) wide := blankP_good g.w0 g.w1 g.h0 g.h1 c0 c1
  have hz := iterZm_lt (us := nW rows) hR.top
  have hlen : ms.length = p.length := by have := hR.len; simpa using this
  have hlenz : (zipW (ms.map W.loc) (nW rows)).length = p.length := by unfold zipW; simp [hlen, hr]
  obtain ⟨vs, G2, hc, k2, hvl, nd, hb, hv⟩ := compF_growX (src := [(n, ms.map W.loc)]) (g := gT (gC (gN 3) (gC (gN 4) gE))) (c := mYes) (e := mCall m_chosen_row [] (mCons (mVar 3) (mCons (mBin fMul (mLst (mCons (mVar 2) mNil)) (mBi fLen (mConsT (mVar 3) mNilT))) (mCons (mVar 4) mNil)))) (τ := [some (.loc n), some (mk wide rows), some (.int c), none, none]) (G := G1) (ws := zipW (ms.map W.loc) (nW rows)) (fun G' y v => ∃ r, (chosenP p (blankP wide p.length c) rows wide)[y]? = some r ∧ G'[v]? = some (.lst (iW r))) (fun _ _ _ _ k ⟨r, a, b⟩ => ⟨r, a, k.get b⟩) (fun _ k => still_of (k.get hR.top)) fun y w hw G' k => by
    have hy : y < p.length := by rw [← hlenz]; exact (List.getElem?_eq_some_iff.mp hw).1
    obtain ⟨a, ea, ha, ia⟩ := row_at (hR.keep k) hy
    have hyr : y < rows.length := by omega
    have ew : w = .tup [.loc a, .int (rows.getD y 0 : Nat)] := by
      unfold zipW at hw
      rw [List.getElem?_map] at hw
      have : ((ms.map W.loc).zip (nW rows))[y]? = some (.loc a, .int (rows.getD y 0 : Nat)) := List.getElem?_zip_eq_some.mpr ⟨by rw [List.getElem?_map, ea]; rfl, by
        rw [List.getElem?_map, List.getElem?_eq_getElem hyr]
        simp only [List.getD_eq_getElem?_getD, List.getElem?_eq_getElem hyr, Option.getD_some, Option.map_some]⟩
      rw [this] at hw
      cases hw
      rfl
    subst ew
    have e1 := getD_row g hy
    have hla := fLen_loc ha
    rw [List.length_map, e1] at hla
    have hrep : fMul (.tmp [W.int c]) (.val (.int (wide : Nat))) G' = .ok (.tmp (iW (List.replicate wide c))) G' := by
      have := repT (G := G') (ws := [W.int c]) (k := wide) (by simp; omega) (by omega)
      rwa [rep_cells] at this
    have hb2 : (G' ++ [GO.lst (iW (List.replicate wide c))])[G'.length]? = some (GO.lst (iW (List.replicate wide c))) := last_get _ _
    have hcr := chosen_row_eq (bits := rows.getD y 0) (get_mono ha [GO.lst (iW (List.replicate wide c))]) hb2 (by rw [e1, List.length_replicate]) (by rw [e1]; omega)
    have eR : chosenR (p.getD y []) (List.replicate wide c) (rows.getD y 0) = chosenR (p.getD y []) ((blankP wide p.length c).getD y []) (rows.getD y 0) := by rw [blankP_row hy]
    refine ⟨[some (.loc n), some (mk wide rows), some (.int c), some (.loc a), some (.int (rows.getD y 0 : Nat))], (G' ++ [GO.lst (iW (List.replicate wide c))]) ++ [GO.lst (iW (chosenR (p.getD y []) (List.replicate wide c) (rows.getD y 0)))], (G' ++ [GO.lst (iW (List.replicate wide c))]).length, rfl, rfl, ?_, (Keeps.app _ _).trans (Keeps.app _ _), by simp, by simp, _, chosenR_tab g hy, ?_⟩
    · generalize (rows.getD y 0) = bits at *
      generalize iW (chosenR (p.getD y []) (List.replicate wide c) bits) = Z at *
      generalize iW (List.replicate wide c) = Y at *
      generalize mk wide rows = M at *
      simp [hla, hrep, hcr]
    · rw [← eR]
      exact last_get _ _
  rw [hlenz] at hvl
  have hN := newP_rows (pic := chosenP p (blankP wide p.length c) rows wide) k2 (by rw [hvl, chosenP_len]) nd hb hv
  refine ⟨G2 ++ [.lst (vs.map W.loc)], G2.length, ?_, hN.later k1⟩
  refine mDef_ok [some (.loc n), some (mk wide rows), some (.int c), none, none] ?_
  unfold b_painted
  have hm1 : fIx (.val (mk wide rows)) (.val (.int 1)) G1 = .ok (.val (.tup (nW rows))) G1 := by
    unfold mk
    exact fIx_tup (k := 1) rfl
  have hl2 : (zipW (ms.map W.loc) (nW rows)).length ≤ 16777216 := by omega
  generalize hmk : mk wide rows = M at *
  rw [seq_nx (τ1 := [some (.loc n), some M, some (.int c), none, none]) (G1 := G) (by simp [n1])]
  rw [seq_nx (τ1 := [some (.loc n), some M, some (.int c), none, none]) (G1 := G1) (by simp [hX, n3])]
  rw [seq_nx (τ1 := [some (.loc n), some M, some (.int c), none, none]) (G1 := G1) (by simp [n4])]
  rw [seq_nx (τ1 := [some (.loc n), some M, some (.int c), none, none]) (G1 := G1) (by simp [n5])]
  generalize vs.map W.loc = V at *
  generalize nW rows = L at *
  generalize zipW (ms.map W.loc) L = us at *
  have hz2 : miB iterZm (mConsT (mVar 0) (mConsT (mBin fIx (mVar 1) (mC (.int 1))) mNilT)) [some (.loc n), some M, some (.int c), none, none] G1 = .ok (us, [(n, ms.map W.loc)]) G1 := by
    unfold miB
    simp [hm1, hz]
  generalize ms.map W.loc = Q at *
  simp [hz2, mComp_at, wipeS, hl2, hc]
end Lk08
set_option Elab.async false
set_option linter.all false
set_option maxRecDepth 100000
set_option maxHeartbeats 4000000
namespace Lk08
open PySem PySem.Spec PyProof.Rows L2 Sy
open N5 N6 N7
/-! masks of cells -/
theorem iterE_loc {G : GH} {n : Nat} {ws : List W} (h : G[n]? = some (.lst ws)) : iterE [.val (.loc n)] G = .ok (enumW ws, [(n, ws)]) G := by
  unfold iterE srcOf
  simp [h]
theorem enumW_len (ws : List W) : (enumW ws).length = ws.length := by unfold enumW; simp
theorem enumW_get {ws : List W} {i : Nat} {w : W} (h : (enumW ws)[i]? = some w) : ∃ u, ws[i]? = some u ∧ w = .tup [.int i, u] := by
  unfold enumW at h
  rw [List.getElem?_map, List.getElem?_zipIdx] at h
  cases e : ws[i]? with
  | none => rw [e] at h; cases h
  | some u =>
    rw [e] at h
    refine ⟨u, rfl, ?_⟩
    have : W.tup [.int ((0 + i : Nat) : Int), u] = w := by simpa using h
    rw [← this, Nat.zero_add]
def inC (r cs : List Int) (x : Nat) : Bool := decide (r.getD x 0 ∈ cs)
theorem row_mask_eq {G : GH} {a k : Nat} {r cs : List Int} (ha : G[a]? = some (.lst (iW r))) (hk : G[k]? = some (.lst (iW cs))) (hl : r.length ≤ 24) : m_row_mask [.loc a, .loc k] G = .ok (.int (sumF (inC r cs) r.length : Nat)) G := by
  refine mDef_ok [some (.loc a), some (.loc k), none, none, none] ?_
  unfold b_row_mask
  have hit := iterE_loc ha
  have hst := still_of ha
  have h : ∃ s2 s4, forL [(a, iW r)] (gT (gC (gN 4) (gC (gN 2) gE))) (sIf (mB (mBin fIn (mVar 2) (mVar 1))) (sAug 3 fOr (mBin fShl (mC (.int 1)) (mVar 4))) sNext) (enumW (iW r)) [some (.loc a), some (.loc k), none, some (.int 0), none] G = .nx [some (.loc a), some (.loc k), s2, some (.int (sumF (inC r cs) r.length : Nat)), s4] G := by
    refine forL_run (fun i τ G' => G' = G ∧ ∃ s2 s4, τ = [some (.loc a), some (.loc k), s2, some (.int (sumF (inC r cs) i : Nat)), s4]) (fun q => ∃ s2 s4, q = .nx [some (.loc a), some (.loc k), s2, some (.int (sumF (inC r cs) r.length : Nat)), s4] G) ⟨rfl, none, none, rfl⟩ ?_ ?_
    · rintro i w τ G' hw ⟨rfl, s2, s4, rfl⟩
      obtain ⟨u, hu, rfl⟩ := enumW_get hw
      have hi : i < r.length := by
        have := (List.getElem?_eq_some_iff.mp hu).1
        simpa using this
      have eu : u = .int (r.getD i 0) := by
        rw [List.getElem?_map, List.getElem?_eq_getElem hi] at hu
        cases hu
        simp only [List.getD_eq_getElem?_getD, List.getElem?_eq_getElem hi, Option.getD_some]
      subst eu
      refine ⟨hst, [some (.loc a), some (.loc k), some (.int (r.getD i 0)), some (.int (sumF (inC r cs) i : Nat)), some (.int i)], rfl, ?_⟩
      have hin := fIn_ints (r.getD i 0) hk
      have hsh := shl_one i (by omega) G'
      have hor := bor_nat (sumF (inC r cs) i) (2 ^ i)
      have e1 : sumF (inC r cs) i ||| 2 ^ i = sumF (inC r cs) i + 2 ^ i := by
        refine or_plus _ _ ?_
        rw [and_pow2, if_neg (by rw [Nat.testBit_lt_two_pow (sumF_lt _ _)]; simp)]
      have e2 := sumF_succ (inC r cs) i
      rw [e1] at hor
      unfold pw at hsh
      cases hc : inC r cs i with
      | true =>
        rw [hc, if_pos rfl] at e2
        rw [← e2] at hor
        have hc' : r.getD i 0 ∈ cs := of_decide_eq_true hc
        generalize (sumF (inC r cs) (i + 1) : Nat) = z at *
        generalize (sumF (inC r cs) i : Nat) = z0 at *
        generalize r.getD i 0 = v at *
        generalize ((2 ^ i : Nat) : Int) = q at *
        simp [hin, hc', hsh, hor]
      | false =>
        rw [hc, if_neg (by simp)] at e2
        have hc' : ¬ r.getD i 0 ∈ cs := of_decide_eq_false hc
        rw [e2, Nat.add_zero]
        generalize (sumF (inC r cs) i : Nat) = z0 at *
        generalize r.getD i 0 = v at *
        simp [hin, hc']
    · rintro τ G' ⟨rfl, s2, s4, rfl⟩
      rw [enumW_len, List.length_map]
      exact ⟨hst, s2, s4, rfl⟩
  obtain ⟨s2, s4, h⟩ := h
  generalize (sumF (inC r cs) r.length : Nat) = z at *
  generalize enumW (iW r) = es at *
  generalize iW r = L at *
  simp [sFor_at, miB, hit, h]
def maskC (p : List (List Int)) (cs : List Int) : List Nat := p.map fun r => sumF (inC r cs) r.length
theorem maskC_good {p : List (List Int)} {wide : Nat} (g : Good p wide) (cs : List Int) : GoodM wide (maskC p cs) := by
  refine ⟨g.w0, g.w1, ?_, ?_, fun r hr => ?_⟩
  · unfold maskC; rw [List.length_map]; exact g.h0
  · unfold maskC; rw [List.length_map]; exact g.h1
  · obtain ⟨q, hq, rfl⟩ := List.mem_map.mp hr
    have := sumF_lt (inC q cs) q.length
    rwa [g.row q hq] at this ⊢
theorem maskC_len (p : List (List Int)) (cs : List Int) : (maskC p cs).length = p.length := by unfold maskC; simp
theorem are_ok {G : GH} {k : Nat} {cs : List Int} (hk : G[k]? = some (.lst (iW cs))) (hl : cs.length ≤ 1000) (hc : ∀ c ∈ cs, 0 ≤ c ∧ c ≤ 15) : m_are_cells [.loc k] G = .ok (.bl true) G := by
  rw [are_cells_eq hk (by simp; omega) (fun w hw => by obtain ⟨i, _, rfl⟩ := List.mem_map.mp hw; exact rfl)]
  rw [all_true fun w hw => by
    obtain ⟨i, hi, rfl⟩ := List.mem_map.mp hw
    have := hc i hi
    simp [cellW, amongW, this.1, this.2]]
theorem mask_of_eq {G : GH} {n k : Nat} {p : List (List Int)} {wide : Nat} {cs : List Int} (hp : PicAt G n p) (g : Good p wide) (hk : G[k]? = some (.lst (iW cs))) (hl : cs.length ≤ 1000) (hc : ∀ c ∈ cs, 0 ≤ c ∧ c ≤ 15) :
    m_mask_of [.loc n, .loc k] G = .ok (mk wide (maskC p cs)) G := by
  have n1 := need_of hp g
  have n2 := are_ok hk hl hc
  obtain ⟨ms, hR⟩ := hp
  obtain ⟨m0, d2, d3⟩ := len_row0 hR g
  have gh := g.h1
  have hlen : ms.length = p.length := by have := hR.len; simpa using this
  have hit := iterA_loc (G := G) (n := n) (ws := ms.map W.loc) (by simp [hR.top])
  have hcm := compF_paired (g := gN 2) (c := mYes) (e := mCall m_row_mask [] (mCons (mVar 2) (mCons (mVar 1) mNil))) (τ := [some (.loc n), some (.loc k), none]) (G := G) (ws := ms.map W.loc) (ys := maskC p cs) (fun z : Nat => W.int z) (still_of hR.top) (by
    refine paired_of (by rw [List.length_map, maskC_len, hlen]) fun i w z e1 e2 => ?_
    have hi : i < p.length := by rw [← maskC_len p cs]; exact (List.getElem?_eq_some_iff.mp e2).1
    obtain ⟨m, em, hm⟩ := paired_nth hR.row (by rw [List.getElem?_map, List.getElem?_eq_getElem hi]; rfl : (p.map iW)[i]? = some (iW p[i]))
    rw [List.getElem?_map, em] at e1
    cases e1
    unfold maskC at e2
    rw [List.getElem?_map, List.getElem?_eq_getElem hi] at e2
    cases e2
    have h1 := row_mask_eq hm hk (by rw [g.row _ (List.getElem_mem hi)]; exact g.w1)
    refine ⟨[some (.loc n), some (.loc k), some (.loc m)], rfl, rfl, ?_⟩
    simp [h1])
  have hl2 : (ms.map W.loc).length ≤ 16777216 := by rw [List.length_map]; omega
  have e : (maskC p cs).map (fun z : Nat => W.int z) = nW (maskC p cs) := rfl
  rw [e] at hcm
  refine mDef_ok [some (.loc n), some (.loc k), none] ?_
  unfold b_mask_of
  rw [seq_nx (τ1 := [some (.loc n), some (.loc k), none]) (G1 := G) (by simp [n1])]
  rw [seq_no (G1 := G) (by simp [n2])]
  unfold mk
  generalize nW (maskC p cs) = L at *
  generalize ms.map W.loc = Q at *
  have ft : fTuple [.tmp L] G = .ok (.val (.tup L)) G := rfl
  simp [d2, d3, mComp_at, miA_at, hit, wipeS, hl2, hcm, ft]
end Lk08
set_option Elab.async false
set_option linter.all false
set_option maxRecDepth 100000
set_option maxHeartbeats 4000000
namespace Lk08
open PySem PySem.Spec PyProof.Rows L2 Sy
/-! _law_same -/
theorem take_succ_mem {α : Type} [DecidableEq α] {l : List α} {i : Nat} {a : α} (h : l[i]? = some a) (j : α) : j ∈ l.take (i + 1) ↔ j ∈ l.take i ∨ j = a := by
  rw [List.take_add_one, h]
  simp
theorem nodup_take {l : List Nat} {i a : Nat} (nd : l.Nodup) (h : l[i]? = some a) : a ∉ l.take i := fun hm => by
  obtain ⟨j, hj⟩ := List.getElem?_of_mem hm
  rw [List.getElem?_take] at hj
  split at hj
  · have h1 := (List.getElem?_eq_some_iff.mp hj)
    have h2 := (List.getElem?_eq_some_iff.mp h)
    obtain ⟨b1, e1⟩ := h1
    obtain ⟨b2, e2⟩ := h2
    have := (List.getElem_inj nd).mp (e1.trans e2.symm)
    omega
  · cases hj
theorem bumped_keep {G0 G G' : GH} {w : W} {ms : List Nat} (k : Keeps G0 G) (hb : Bumped w G ms G') (hm : ∀ m ∈ ms, G0.length ≤ m) (hl : G.length ≤ G'.length) : Keeps G0 G' := by
  have := k.len
  refine ⟨by omega, fun j hj => ?_⟩
  rw [hb j, if_neg fun z => by have := hm j z; omega, k.old j hj]
theorem same_eq {G0 G : GH} {n m : Nat} {pic : List (List Int)} {wide : Nat} (g : Good pic wide) (h : NewP G0 G n pic) (h2 : PicAt G m pic) : ∃ G', m_law_same [.loc n, .loc m] G = .ok (.bl true) G' ∧ Keeps G0 G' := by
  obtain ⟨ms, hF, nd, h1, hd⟩ := h.at_
  have hlm : ms.length = pic.length := by have := hF.len; simpa using this
  have g1 := g.h1
  have hlist := isi_lst_list hF.top
  have hne := PicAt.ne h.pic h2
  rw [decide_eq_true rfl] at hne
  have hit := iterA_at hF.top
  have hb24 : (ms.map W.loc).length ≤ 16777216 := by rw [List.length_map]; omega
  -- the first walk
  have hmi : miA (mVar 0) [some (.loc n), some (.loc m), none, none, none, none] G = .ok (ms.map W.loc, [(n, ms.map W.loc)]) G := by
    generalize ms.map W.loc = ws at *
    simp [miA_at, hit]
  obtain ⟨s2, hw1⟩ : ∃ s2, sFor (miA (mVar 0)) (gN 2) (sIf (mOr (mNot (mTru (mBi fIsi (mConsT (mVar 2) (mConsT (mC (.ty "list")) mNilT))))) (mNot (mTru (mBi fAll (mConsT (mComp (miA (mVar 2)) (gN 5) mYes (mCall m_law_whole [] (mCons (mVar 5) mNil)) [5]) mNilT))))) (sRet (mC (.bl false))) sNext)
      [some (.loc n), some (.loc m), none, none, none, none] G = .nx [some (.loc n), some (.loc m), s2, none, none, none] G := by
    rw [sFor_at, hmi, R.toS_ok]
    refine forL_run (I := fun _ τ G' => G' = G ∧ ∃ s2, τ = [some (.loc n), some (.loc m), s2, none, none, none]) (E := fun r => ∃ s2, r = .nx [some (.loc n), some (.loc m), s2, none, none, none] G) (τ := [some (.loc n), some (.loc m), none, none, none, none]) (G := G) ⟨rfl, _, rfl⟩ ?_ ?_
    · rintro i w τ G' hw ⟨rfl, s2, rfl⟩
      rw [List.getElem?_map] at hw
      cases ea : ms[i]? with
      | none => rw [ea] at hw; cases hw
      | some a =>
        rw [ea] at hw
        cases hw
        refine ⟨still_of hF.top, [some (.loc n), some (.loc m), some (.loc a), none, none, none], rfl, ?_⟩
        obtain ⟨r, er, ga⟩ := paired_right hF.row ea
        obtain ⟨is, his, rfl⟩ := List.mem_map.mp (List.mem_of_getElem? er)
        have e1 := isi_lst_list ga
        have hia := iterA_at ga
        have hc := compF_paired (src := [(a, iW is)]) (g := gN 5) (c := mYes) (e := mCall m_law_whole [] (mCons (mVar 5) mNil)) (τ := [some (.loc n), some (.loc m), some (.loc a), none, none, none]) (G := G') (ws := iW is) (ys := is.map fun _ => true) W.bl (still_of ga) (paired_map (paired_of (by simp) fun i x y e1 e2 => ⟨[some (.loc n), some (.loc m), some (.loc a), none, none, some (.int x)], rfl, rfl, by
          rw [List.getElem?_map, e1] at e2
          cases e2
          have := whole_int x G'
          simp [this]⟩))
        have hall := fAll_tmp (is.map fun _ => true) G'
        have et : (is.map fun _ => true).all id = true := by simp
        rw [et] at hall
        have hl : (iW is).length ≤ 16777216 := by
          rw [List.length_map, g.row is his]
          have := g.w1
          omega
        have e3 : (mNot (mTru (mBi fAll (mConsT (mComp (miA (mVar 2)) (gN 5) mYes (mCall m_law_whole [] (mCons (mVar 5) mNil)) [5]) mNilT)))) [some (.loc n), some (.loc m), some (.loc a), none, none, none] G' = .ok false G' := by
          generalize (is.map fun _ => true).map W.bl = Z at *
          generalize iW is = ws at *
          simp [mComp_at, miA_at, hia, wipeS, hl, hc, hall]
        rw [if_no (G1 := G') (by
          rw [mOr_at, show (mNot (mTru (mBi fIsi (mConsT (mVar 2) (mConsT (mC (.ty "list")) mNilT))))) [some (.loc n), some (.loc m), some (.loc a), none, none, none] G' = .ok false G' by simp [e1]]
          exact e3)]
        exact ⟨rfl, _, rfl⟩
    · rintro τ G' ⟨rfl, s2, rfl⟩
      exact ⟨still_of hF.top, _, rfl⟩
  -- sizes
  have c0 : compF [(n, ms.map W.loc)] (gN 2) mYes (mBi fLen (mConsT (mVar 2) mNilT)) [some (.loc n), some (.loc m), none, none, none, none] (ms.map W.loc) G = .ok (iW (pic.map fun r => (r.length : Int))) G := by
    have := compF_paired (src := [(n, ms.map W.loc)]) (g := gN 2) (c := mYes) (e := mBi fLen (mConsT (mVar 2) mNilT)) (τ := [some (.loc n), some (.loc m), none, none, none, none]) (G := G) (ws := ms.map W.loc) (ys := pic) (fun r => W.int ((r.length : Int))) (still_of hF.top) (paired_map (paired_of hlm fun i a r ea er => ⟨[some (.loc n), some (.loc m), some (.loc a), none, none, none], rfl, rfl, by
      obtain ⟨u, eu, ga⟩ := paired_right hF.row ea
      rw [List.getElem?_map, er] at eu
      cases eu
      have := fLen_loc ga
      rw [List.length_map] at this
      simp [this]⟩))
    rw [this]
    simp
  generalize hZ : (pic.map fun r => (r.length : Int)) = zs at *
  have hG1 : ∀ xs, Keeps G (G ++ xs) := fun xs => Keeps.app _ _
  obtain ⟨s2', G2, hB, hl2, hw2⟩ : ∃ s2' G2, Bumped (.int 0) (G ++ [.lst (iW zs)]) ms G2 ∧ (G ++ [GO.lst (iW zs)]).length ≤ G2.length ∧ sFor (miA (mVar 0)) (gN 2) (sDrop (mMtF isLst fApp (mVar 2) (mCons (mC (.int 0)) mNil))) [some (.loc n), some (.loc m), s2, some (.loc G.length), none, none] (G ++ [.lst (iW zs)]) = .nx [some (.loc n), some (.loc m), s2', some (.loc G.length), none, none] G2 := by
    have hF1 := hF.keep (hG1 [.lst (iW zs)])
    have hit1 := iterA_at hF1.top
    generalize G ++ [GO.lst (iW zs)] = G1 at *
    have hmi : miA (mVar 0) [some (.loc n), some (.loc m), s2, some (.loc G.length), none, none] G1 = .ok (ms.map W.loc, [(n, ms.map W.loc)]) G1 := by
      generalize ms.map W.loc = ws at *
      simp [miA_at, hit1]
    rw [sFor_at, hmi, R.toS_ok]
    refine forL_run (I := fun i τ G' => (Bumped (.int 0) G1 (ms.take i) G' ∧ G1.length ≤ G'.length) ∧ ∃ s2, τ = [some (.loc n), some (.loc m), s2, some (.loc G.length), none, none]) (E := fun r => ∃ s2 G2, Bumped (.int 0) G1 ms G2 ∧ G1.length ≤ G2.length ∧ r = .nx [some (.loc n), some (.loc m), s2, some (.loc G.length), none, none] G2) (τ := [some (.loc n), some (.loc m), s2, some (.loc G.length), none, none]) (G := G1) ⟨⟨fun j => by simp, Nat.le_refl _⟩, _, rfl⟩ ?_ ?_
    · rintro i w τ G' hw ⟨⟨hB, hlen⟩, s2, rfl⟩
      rw [List.getElem?_map] at hw
      cases ea : ms[i]? with
      | none => rw [ea] at hw; cases hw
      | some a =>
        rw [ea] at hw
        cases hw
        obtain ⟨r, er, ga⟩ := paired_right hF1.row ea
        obtain ⟨is, his, rfl⟩ := List.mem_map.mp (List.mem_of_getElem? er)
        have hn : G'[n]? = some (.lst (ms.map W.loc)) := by
          rw [hB n, if_neg fun z => h1 (List.mem_of_mem_take z)]
          exact hF1.top
        have ga' : G'[a]? = some (.lst (iW is)) := by
          rw [hB a, if_neg (nodup_take nd ea)]
          exact ga
        have hla := (List.getElem?_eq_some_iff.mp ga').1
        have e1 := isLst_ok ga'
        have e2 := fApp_ok (w := .int 0) ga' (by rw [List.length_map, g.row is his]; have := g.w1; omega)
        refine ⟨still_of hn, [some (.loc n), some (.loc m), some (.loc a), some (.loc G.length), none, none], rfl, ?_⟩
        generalize iW is = ws at *
        rw [show (sDrop (mMtF isLst fApp (mVar 2) (mCons (mC (.int 0)) mNil)) [some (.loc n), some (.loc m), some (.loc a), some (.loc G.length), none, none] G') = .nx [some (.loc n), some (.loc m), some (.loc a), some (.loc G.length), none, none] (G'.set a (.lst (ws ++ [.int 0]))) by simp [e1, e2]]
        refine ⟨⟨fun j => ?_, by rw [List.length_set]; exact hlen⟩, _, rfl⟩
        rw [set_get hla, hB j]
        by_cases hja : j = a
        · subst hja
          rw [if_pos rfl, if_pos ((take_succ_mem ea j).mpr (.inr rfl)), ga]; rfl
        · rw [if_neg hja]
          by_cases hjt : j ∈ ms.take i
          · rw [if_pos hjt, if_pos ((take_succ_mem ea j).mpr (.inl hjt))]
          · rw [if_neg hjt, if_neg fun z => ((take_succ_mem ea j).mp z).elim hjt hja]
    · rintro τ G' ⟨⟨hB, hlen⟩, s2, rfl⟩
      rw [List.length_map, List.take_length] at hB
      have hn : G'[n]? = some (.lst (ms.map W.loc)) := by
        rw [hB n, if_neg h1]
        exact hF1.top
      exact ⟨still_of hn, _, _, hB, hlen, rfl⟩
  refine ⟨G2, ?_, bumped_keep (h.keep.trans (Keeps.app G [.lst (iW zs)])) hB hd hl2⟩
  have hF1 := hF.keep (hG1 [.lst (iW zs)])
  have hS1 := last_get G (.lst (iW zs))
  have hold := PicAt.old hF
  have hn2 : G2[n]? = some (.lst (ms.map W.loc)) := by rw [hB n, if_neg h1]; exact hF1.top
  have hS2 : G2[G.length]? = some (.lst (iW zs)) := by
    rw [hB _, if_neg fun z => by have := hold.2 _ z; omega]
    exact hS1
  have hit2 := iterA_at hn2
  have hitS := iterA_at hS2
  have hlz : (iW zs).length ≤ 16777216 := by rw [← hZ]; simp; omega
  have c1 : compF [(n, ms.map W.loc)] (gN 2) mYes (mBi fLen (mConsT (mVar 2) mNilT)) [some (.loc n), some (.loc m), none, some (.loc G.length), none, none] (ms.map W.loc) G2 = .ok (iW (pic.map fun r => (r.length : Int) + 1)) G2 := by
    have := compF_paired (src := [(n, ms.map W.loc)]) (g := gN 2) (c := mYes) (e := mBi fLen (mConsT (mVar 2) mNilT)) (τ := [some (.loc n), some (.loc m), none, some (.loc G.length), none, none]) (G := G2) (ws := ms.map W.loc) (ys := pic) (fun r => W.int ((r.length : Int) + 1)) (still_of hn2) (paired_map (paired_of hlm fun i a r ea er => ⟨[some (.loc n), some (.loc m), some (.loc a), some (.loc G.length), none, none], rfl, rfl, by
      obtain ⟨u, eu, ga⟩ := paired_right hF1.row ea
      rw [List.getElem?_map, er] at eu
      cases eu
      have ga2 : G2[a]? = some (.lst (iW r ++ [.int 0])) := by rw [hB a, if_pos (List.mem_of_getElem? ea), ga]; rfl
      have := fLen_loc ga2
      rw [List.length_append, List.length_map] at this
      simp [this]⟩))
    rw [this]
    simp
  have c2 : compF [(G.length, iW zs)] (gN 4) mYes (mBin fAdd (mVar 4) (mC (.int 1))) [some (.loc n), some (.loc m), s2', some (.loc G.length), none, none] (iW zs) G2 = .ok (iW (pic.map fun r => (r.length : Int) + 1)) G2 := by
    have := compF_paired (src := [(G.length, iW zs)]) (g := gN 4) (c := mYes) (e := mBin fAdd (mVar 4) (mC (.int 1))) (τ := [some (.loc n), some (.loc m), s2', some (.loc G.length), none, none]) (G := G2) (ws := iW zs) (ys := zs) (fun z => W.int (z + 1)) (still_of hS2) (paired_map (paired_of rfl fun i a r ea er => ⟨[some (.loc n), some (.loc m), s2', some (.loc G.length), some (.int a), none], rfl, rfl, by
      rw [ea] at er
      cases er
      simp⟩))
    rw [this, ← hZ]
    simp
  have c3 : fEq (.tmp (iW (pic.map fun r => (r.length : Int) + 1))) (.tmp (iW (pic.map fun r => (r.length : Int) + 1))) G2 = .ok (.val (.bl true)) G2 := by
    rw [fEq_data (toDT_tmpI _ _) (toDT_tmpI _ _), eqv_ints]
    simp
  refine mDef_ok [some (.loc n), some (.loc m), none, none, none, none] ?_
  unfold b_law_same
  rw [seq_no (G1 := G) (by simp [hlist, hne])]
  rw [seq_nx hw1]
  rw [seq_nx (τ1 := [some (.loc n), some (.loc m), s2, some (.loc G.length), none, none]) (G1 := G ++ [.lst (iW zs)]) (by
    generalize ms.map W.loc = ws at *
    generalize iW zs = us at *
    simp [mComp_at, miA_at, hit, wipeS, hb24, c0])]
  rw [seq_nx hw2]
  generalize iW (pic.map fun r => (r.length : Int) + 1) = L at *
  generalize iW zs = us at *
  generalize ms.map W.loc = ws at *
  simp [mComp_at, miA_at, hit2, hitS, wipeS, hb24, hlz, c1, c2, c3]
end Lk08
set_option Elab.async false
set_option linter.all false
set_option maxRecDepth 100000
set_option maxHeartbeats 4000000
namespace Lk08
open PySem PySem.Spec PyProof.Rows L2 Sy
open N5 N6 N7
/-! _law_by_cells, _law_some, wrong cells -/
theorem rowsAt_put {G : GH} {n y m : Nat} {ms : List Nat} {rows : List (List W)} {r : List W} (h : RowsAt G n ms rows) (nd : ms.Nodup) (hn : n ∉ ms) (hy : ms[y]? = some m) : RowsAt (G.set m (.lst r)) n ms (rows.set y r) := by
  have hlen : m < G.length := by
    obtain ⟨_, _, e⟩ := paired_mem h.row m (List.mem_of_getElem? hy)
    exact (List.getElem?_eq_some_iff.mp e).1
  refine ⟨?_, paired_of (by rw [List.length_set]; exact h.len) fun i k q e1 e2 => ?_⟩
  · rw [set_get hlen, if_neg fun (z : n = m) => hn (z ▸ List.mem_of_getElem? hy)]
    exact h.top
  · rw [set_get hlen]
    by_cases hi : i = y
    · subst hi
      rw [hy] at e1
      cases e1
      rw [if_pos rfl]
      have : i < rows.length := by rw [← h.len]; exact (List.getElem?_eq_some_iff.mp hy).1
      rw [List.getElem?_set_self this] at e2
      cases e2
      rfl
    · rw [List.getElem?_set_ne fun z => hi z.symm] at e2
      rw [if_neg fun z => ?_]
      · exact paired_get h.row i k q e1 e2
      · subst z
        have b1 := List.getElem?_eq_some_iff.mp e1
        have b2 := List.getElem?_eq_some_iff.mp hy
        obtain ⟨c1, d1⟩ := b1
        obtain ⟨c2, d2⟩ := b2
        exact hi ((List.getElem_inj nd).mp (d1.trans d2.symm))
def byP (p q : List (List Int)) (ps : Pl) (wide : Nat) : List (List Int) := tab wide p.length fun x y => if (x, y) ∈ ps then cf q x y else cf p x y
theorem map_set {α β : Type} (f : α → β) (l : List α) (i : Nat) (a : α) : (l.map f).set i (f a) = (l.set i a).map f := by
  rw [List.map_set]
theorem by_cells_eq {G : GH} {n m L : Nat} {p q : List (List Int)} {wide : Nat} {ps : Pl} (hp : PicAt G n p) (hq : PicAt G m q) (g : Good p wide) (g2 : Good q wide) (hl : q.length = p.length) (hps : G[L]? = some (.lst (pW ps))) (hin : ∀ z ∈ ps, z.1 < wide ∧ z.2 < p.length) :
    ∃ G' N, m_law_by_cells [.loc n, .loc m, .loc L] G = .ok (.loc N) G' ∧ NewP G G' N (byP p q ps wide) := by
  have gh := g.h1
  have gw := g.w1
  have hcp := copied_new hp (by omega)
  have hL := laidR_rows G (p.map iW)
  rw [List.length_map] at hL
  have kL : Keeps G (laidR G (p.map iW)) := Keeps.app _ _
  generalize laidR G (p.map iW) = G1 at *
  obtain ⟨ks, hQ⟩ := hq
  have o2 := PicAt.old hQ
  have nd := places_nodup G.length p.length
  have hN : G.length + p.length ∉ places G.length p.length := fun z => by have := places_mem z; omega
  generalize hms : places G.length p.length = ms at *
  have hmsl : ∀ a ∈ ms, G.length ≤ a := fun a ha => by
    rw [← hms] at ha
    exact (places_mem ha).1
  have hLen : L < G.length := (List.getElem?_eq_some_iff.mp hps).1
  obtain ⟨τe, G2, hB, hw, hτ⟩ : ∃ τe G2, (Keeps G G2 ∧ RowsAt G2 (G.length + p.length) ms ((byP p q ps wide).map iW)) ∧ sFor (miA (mVar 2)) (gT (gC (gN 4) (gC (gN 5) gE))) (sPut (mBin fIx (mVar 3) (mVar 5)) (mVar 4) (mBin fIx (mBin fIx (mVar 1) (mVar 5)) (mVar 4)))
      [some (.loc n), some (.loc m), some (.loc L), some (.loc (G.length + p.length)), none, none] G1 = .nx τe G2 ∧ τe[3]? = some (some (.loc (G.length + p.length))) := by
    have hit := iterA_at (kL.get hps)
    have hmi : miA (mVar 2) [some (.loc n), some (.loc m), some (.loc L), some (.loc (G.length + p.length)), none, none] G1 = .ok (pW ps, [(L, pW ps)]) G1 := by
      generalize pW ps = ws at *
      simp [miA_at, hit]
    rw [sFor_at, hmi, R.toS_ok]
    refine forL_run (I := fun i τ G' => (Keeps G G' ∧ RowsAt G' (G.length + p.length) ms ((byP p q (ps.take i) wide).map iW)) ∧ ∃ s4 s5, τ = [some (.loc n), some (.loc m), some (.loc L), some (.loc (G.length + p.length)), s4, s5]) (E := fun r => ∃ τe G2, (Keeps G G2 ∧ RowsAt G2 (G.length + p.length) ms ((byP p q ps wide).map iW)) ∧ r = .nx τe G2 ∧ τe[3]? = some (some (.loc (G.length + p.length)))) ⟨⟨kL, ?_⟩, none, none, rfl⟩ ?_ ?_
    · have e : byP p q (ps.take 0) wide = p := by
        unfold byP
        rw [show (tab wide p.length fun x y => if (x, y) ∈ ps.take 0 then cf q x y else cf p x y) = tab wide p.length (cf p) from tab_congr fun x y _ _ => by simp]
        exact (tab_cf g.row).symm
      rw [e]
      exact hL
    · rintro i w τ G' hw ⟨⟨k, hR⟩, s4, s5, rfl⟩
      unfold pW at hw
      rw [List.getElem?_map] at hw
      cases ez : ps[i]? with
      | none => rw [ez] at hw; cases hw
      | some z =>
        rw [ez] at hw
        cases hw
        obtain ⟨hx, hy⟩ := hin z (List.mem_of_getElem? ez)
        refine ⟨still_of (k.get hps), [some (.loc n), some (.loc m), some (.loc L), some (.loc (G.length + p.length)), some (.int (z.1 : Nat)), some (.int (z.2 : Nat))], rfl, ?_⟩
        have hlb : (byP p q (ps.take i) wide).length = p.length := tab_len ..
        obtain ⟨a, ea, ha, ia⟩ := row_at (y := z.2) hR (by rw [hlb]; exact hy)
        obtain ⟨b, eb, hb, ib⟩ := row_at (y := z.2) (hQ.keep k) (by omega)
        have hrl : ((byP p q (ps.take i) wide).getD z.2 []) = (List.range wide).map fun x => if (x, z.2) ∈ ps.take i then cf q x z.2 else cf p x z.2 := by
          unfold byP
          rw [List.getD_eq_getElem?_getD, tab_get hy]
          rfl
        have hv : fIx (.val (.loc b)) (.val (.int (z.1 : Nat))) G' = .ok (.val (.int (cf q z.1 z.2))) G' := fIx_ints hb (by rw [getD_row g2 (by omega)]; exact hx)
        have hput := sPut_ok (mo := mBin fIx (mVar 3) (mVar 5)) (mi := mVar 4) (m := mBin fIx (mBin fIx (mVar 1) (mVar 5)) (mVar 4)) (τ := [some (.loc n), some (.loc m), some (.loc L), some (.loc (G.length + p.length)), some (.int (z.1 : Nat)), some (.int (z.2 : Nat))]) (G := G') (G1 := G') (G2 := G') (G3 := G') (w := .int (cf q z.1 z.2)) (n := a) (k := z.1) (us := iW ((byP p q (ps.take i) wide).getD z.2 [])) (by simp [ib, hv]) (by simp [ia]) (by simp) ha (by rw [List.length_map, hrl, List.length_map, List.length_range]; exact hx)
        rw [hput]
        have hnew : (byP p q (ps.take (i + 1)) wide) = (byP p q (ps.take i) wide).set z.2 (((byP p q (ps.take i) wide).getD z.2 []).set z.1 (cf q z.1 z.2)) := by
          rw [hrl]
          unfold byP
          rw [tab_set hy]
          refine tab_congr fun x y hx hy => ?_
          by_cases hxy : x = z.1 ∧ y = z.2
          · rw [if_pos hxy, if_pos ((take_succ_mem ez (x, y)).mpr (.inr (by rw [hxy.1, hxy.2])))]
            rw [hxy.1, hxy.2]
          · rw [if_neg hxy]
            have : (x, y) ≠ z := fun e => hxy ⟨congrArg Prod.fst e, congrArg Prod.snd e⟩
            by_cases ht : (x, y) ∈ ps.take i
            · rw [if_pos ht, if_pos ((take_succ_mem ez (x, y)).mpr (.inl ht))]
            · rw [if_neg ht, if_neg fun e => ((take_succ_mem ez (x, y)).mp e).elim ht this]
        have haG : a < G'.length := (List.getElem?_eq_some_iff.mp ha).1
        refine ⟨⟨⟨by rw [List.length_set]; exact k.len, fun j hj => ?_⟩, ?_⟩, _, _, rfl⟩
        · rw [set_get haG, if_neg fun e => by have := hmsl a (List.mem_of_getElem? ea); omega]
          exact k.old j hj
        · have := rowsAt_put (r := (iW ((byP p q (ps.take i) wide).getD z.2 [])).set z.1 (.int (cf q z.1 z.2))) hR nd hN ea
          rw [hnew]
          have e : ((byP p q (ps.take i) wide).map iW).set z.2 ((iW ((byP p q (ps.take i) wide).getD z.2 [])).set z.1 (.int (cf q z.1 z.2))) = ((byP p q (ps.take i) wide).set z.2 (((byP p q (ps.take i) wide).getD z.2 []).set z.1 (cf q z.1 z.2))).map iW := by
            rw [← map_set iW]
            congr 1
            exact map_set W.int _ _ _
          rw [← e]
          exact this
    · rintro τ G' ⟨⟨k, hR⟩, s4, s5, rfl⟩
      have : (pW ps).length = ps.length := by unfold pW; simp
      rw [this, List.take_length] at hR
      exact ⟨still_of (k.get hps), _, _, ⟨k, hR⟩, rfl, rfl⟩
  refine ⟨G2, G.length + p.length, ?_, ⟨hB.1, by omega, ms, hB.2, nd, hN, hmsl⟩⟩
  refine mDef_ok [some (.loc n), some (.loc m), some (.loc L), none, none, none] ?_
  unfold b_law_by_cells
  rw [seq_nx (τ1 := [some (.loc n), some (.loc m), some (.loc L), some (.loc (G.length + p.length)), none, none]) (G1 := G1) (by simp [hcp])]
  rw [seq_nx hw]
  simp [hτ]
end Lk08
set_option Elab.async false
set_option linter.all false
set_option maxRecDepth 100000
set_option maxHeartbeats 4000000
namespace Lk08
open PySem PySem.Spec PyProof.Rows L2 Sy
/-! _law_some, wrong cells -/
theorem mul7 : ∀ {k : Nat}, k < 5 → ∀ G, fMul (.val (.int 7)) (.val (.int k)) G = .ok (.val (.int ((7 * k : Nat) : Int))) G
  | 0, _, _ => rfl
  | 1, _, _ => rfl
  | 2, _, _ => rfl
  | 3, _, _ => rfl
  | 4, _, _ => rfl
theorem mulkk : ∀ {k : Nat}, k < 5 → ∀ G, fMul (.val (.int k)) (.val (.int k)) G = .ok (.val (.int ((k * k : Nat) : Int))) G
  | 0, _, _ => rfl
  | 1, _, _ => rfl
  | 2, _, _ => rfl
  | 3, _, _ => rfl
  | 4, _, _ => rfl
theorem pick_two {u v : W} {j : Nat} (hj : j < 2) (G : GH) : ∃ w, fIx (.tmp [u, v]) (.val (.int j)) G = .ok (.val w) G ∧ (w = u ∨ w = v) := by
  match j, hj with
  | 0, _ => exact ⟨u, fIx_tmp (k := 0) rfl, .inl rfl⟩
  | 1, _ => exact ⟨v, fIx_tmp (k := 1) rfl, .inr rfl⟩
theorem fAdd_locL {G : GH} {L : Nat} {ws us : List W} (h : G[L]? = some (.lst ws)) (hl : ws.length + us.length ≤ 16777216) : fAdd (.val (.loc L)) (.tmp us) G = .ok (.tmp (ws ++ us)) G := fAdd_locT h hl
theorem iW_app (a b : List Int) : iW (a ++ b) = iW a ++ iW b := List.map_append
theorem iW_take (a : List Int) (e : Nat) : iW (a.take e) = (iW a).take e := List.map_take
theorem turn_of {N : Sl → GH → Prop} {E : RS → Prop} {r : RS} {τ : Sl} {G : GH} (h : r = .nx τ G) (hn : N τ G) : Sy.Turn N E r := by
  rw [h]
  exact hn
theorem some_eq {G : GH} {n : Nat} {p : List (List Int)} {wide : Nat} (hp : PicAt G n p) (g : Good p wide) (r : Nat) :
    ∃ cs xs N, m_law_some [.int r, .loc n] G = .ok (.loc N) (G ++ xs) ∧ G.length ≤ N ∧ (G ++ xs)[N]? = some (.lst (iW cs)) ∧ cs.length ≤ 10 ∧ ∀ c ∈ cs, 0 ≤ c ∧ c ≤ 15 := by
  obtain ⟨ms, hR⟩ := hp
  have gw0 := g.w0
  have gh0 := g.h0
  have gw1 := g.w1
  have gh1 := g.h1
  obtain ⟨t, ht, ht5⟩ := mod_nat (r : Int) (m := 5) (by omega)
  have hir := fun G => iterR_nat t (by omega) G
  have h5 := fMod_int (i := (r : Int)) (j := 5) (G := G ++ [.lst (iW [])]) (by omega)
  have h5' : (r : Int) % 5 = t := ht
  rw [h5'] at h5
  obtain ⟨cs, s3, s4, hw, hcl, hcs⟩ : ∃ cs s3 s4, sFor (miR (mCons (mBin fMod (mVar 0) (mC (.int 5))) mNil)) (gN 3) (sSeq (sSet 4 (mBin fIx (mVar 1) (mBin fMod (mBin fFdiv (mVar 0) (mBin fAdd (mC (.int 5)) (mBin fMul (mC (.int 7)) (mVar 3)))) (mBi fLen (mConsT (mVar 1) mNilT))))) (sDrop (mMtF isLst fApp (mVar 2) (mCons (mBin fIx (mLst (mCons (mBin fIx (mVar 4) (mBin fMod (mBin fFdiv (mVar 0) (mBin fAdd (mC (.int 35)) (mVar 3))) (mBi fLen (mConsT (mVar 4) mNilT)))) (mCons (mBin fMod (mBin fFdiv (mVar 0) (mBin fAdd (mC (.int 60)) (mVar 3))) (mC (.int 16))) mNil))) (mBin fFdiv (mBin fMod (mBin fFdiv (mVar 0) (mBin fAdd (mC (.int 9)) (mBin fMul (mVar 3) (mVar 3)))) (mC (.int 3))) (mC (.int 2)))) mNil))))
      [some (.int r), some (.loc n), some (.loc G.length), none, none] (G ++ [.lst (iW [])]) = .nx [some (.int r), some (.loc n), some (.loc G.length), s3, s4] (G ++ [.lst (iW cs)]) ∧ cs.length ≤ 4 ∧ ∀ c ∈ cs, 0 ≤ c ∧ c ≤ 15 := by
    have hmi : miR (mCons (mBin fMod (mVar 0) (mC (.int 5))) mNil) [some (.int r), some (.loc n), some (.loc G.length), none, none] (G ++ [.lst (iW [])]) = .ok (rangeW 0 t, []) (G ++ [.lst (iW [])]) := by
      generalize G ++ [GO.lst (iW [])] = G1 at *
      generalize hus : rangeW 0 t = us at *
      simp [miR_at, h5, hir]
    rw [sFor_at, hmi, R.toS_ok]
    refine forL_run (I := fun i τ G' => ∃ cs s3 s4, cs.length = i ∧ (∀ c ∈ cs, 0 ≤ c ∧ c ≤ 15) ∧ τ = [some (.int r), some (.loc n), some (.loc G.length), s3, s4] ∧ G' = G ++ [.lst (iW cs)]) (E := fun q => ∃ cs s3 s4, q = .nx [some (.int r), some (.loc n), some (.loc G.length), s3, s4] (G ++ [.lst (iW cs)]) ∧ cs.length ≤ 4 ∧ ∀ c ∈ cs, 0 ≤ c ∧ c ≤ 15) ⟨[], none, none, rfl, by simp, rfl, rfl⟩ ?_ ?_
    · rintro k w τ G' hw ⟨cs, s3, s4, hcl, hcs, rfl, rfl⟩
      obtain ⟨hk, rfl⟩ := rangeW_get hw
      rw [Int.zero_add]
      have hk5 : k < 5 := by omega
      have hR1 := hR.keep (Keeps.app G [.lst (iW cs)])
      have hG1 := last_get G (.lst (iW cs))
      have happ : fApp (.val (.loc G.length)) [.int 0] (G ++ [.lst (iW cs)]) = fApp (.val (.loc G.length)) [.int 0] (G ++ [.lst (iW cs)]) := rfl
      have hset : ∀ c : Int, (G ++ [GO.lst (iW cs)]).set G.length (.lst (iW cs ++ [.int c])) = G ++ [.lst (iW (cs ++ [c]))] := fun c => by
        rw [List.set_append_right _ _ (Nat.le_refl _), Nat.sub_self, iW_app]
        rfl
      have hap : ∀ c : Int, fApp (.val (.loc G.length)) [.int c] (G ++ [.lst (iW cs)]) = .ok (.val .non) (G ++ [.lst (iW (cs ++ [c]))]) := fun c => by
        rw [fApp_ok hG1 (by rw [List.length_map]; omega), hset]
      have hil := isLst_ok hG1
      have m1 := mul7 hk5 (G ++ [.lst (iW cs)])
      have m2 := mulkk hk5 (G ++ [.lst (iW cs)])
      have hlp := len_pic hR1
      generalize G ++ [GO.lst (iW cs)] = G1 at *
      have kk : k * k ≤ 16 := by
        have := Nat.mul_le_mul (show k ≤ 4 by omega) (show k ≤ 4 by omega)
        omega
      obtain ⟨y, hy, hyl⟩ := mod_nat ((r : Int) / (5 + (7 * k : Nat))) (m := p.length) gh0
      obtain ⟨a, ea, ha, ia⟩ := row_at hR1 hyl
      obtain ⟨x, hx, hxl⟩ := mod_nat ((r : Int) / (35 + k)) (m := wide) gw0
      obtain ⟨v, hv, hvl⟩ := mod_nat ((r : Int) / (60 + k)) (m := 16) (by omega)
      obtain ⟨b, hb, hbl⟩ := mod_nat ((r : Int) / (9 + (k * k : Nat))) (m := 3) (by omega)
      have hla := fLen_loc ha
      rw [List.length_map, getD_row g hyl] at hla
      have hix := fIx_ints ha (x := x) (by rw [getD_row g hyl]; exact hxl)
      have hgx := good_get g hxl hyl
      obtain ⟨w, hpk, hww⟩ := pick_two (u := .int ((p.getD y []).getD x 0)) (v := .int (v : Nat)) (j := b / 2) (by omega) G1
      obtain ⟨c, rfl, hc⟩ : ∃ c : Int, w = .int c ∧ 0 ≤ c ∧ c ≤ 15 := by
        rcases hww with rfl | rfl
        · exact ⟨_, rfl, hgx⟩
        · exact ⟨_, rfl, by omega⟩
      have d1 := fFdiv_int (i := (r : Int)) (j := 5 + ((7 * k : Nat) : Int)) (G := G1) (by omega) (log2_small (by omega) (by omega))
      have d2 := fMod_int (i := (r : Int) / (5 + ((7 * k : Nat) : Int))) (j := (p.length : Int)) (G := G1) (by omega)
      rw [hy] at d2
      have d3 := fFdiv_int (i := (r : Int)) (j := 35 + (k : Int)) (G := G1) (by omega) (log2_small (by omega) (by omega))
      have d4 := fMod_int (i := (r : Int) / (35 + (k : Int))) (j := (wide : Int)) (G := G1) (by omega)
      rw [hx] at d4
      have d5 := fFdiv_int (i := (r : Int)) (j := 60 + (k : Int)) (G := G1) (by omega) (log2_small (by omega) (by omega))
      have d6 := fMod_int (i := (r : Int) / (60 + (k : Int))) (j := 16) (G := G1) (by omega)
      rw [show (r : Int) / (60 + (k : Int)) % 16 = v from hv] at d6
      have d7 := fFdiv_int (i := (r : Int)) (j := 9 + ((k * k : Nat) : Int)) (G := G1) (by omega) (log2_small (by omega) (by omega))
      have d8 := fMod_int (i := (r : Int) / (9 + ((k * k : Nat) : Int))) (j := 3) (G := G1) (by omega)
      rw [show (r : Int) / (9 + ((k * k : Nat) : Int)) % 3 = b from hb] at d8
      have d9 := fFdiv_int (i := (b : Int)) (j := 2) (G := G1) (by omega) (by decide)
      rw [show (b : Int) / 2 = ((b / 2 : Nat) : Int) by omega] at d9
      refine ⟨still_nil, [some (.int r), some (.loc n), some (.loc G.length), some (.int k), s4], rfl, ?_⟩
      rw [seq_nx (τ1 := [some (.int r), some (.loc n), some (.loc G.length), some (.int k), some (.loc a)]) (G1 := G1) (by
        generalize ((7 * k : Nat) : Int) = q at *
        simp [m1, hlp, d1, d2, ia])]
      refine turn_of (τ := [some (.int r), some (.loc n), some (.loc G.length), some (.int k), some (.loc a)]) (G := G ++ [.lst (iW (cs ++ [c]))]) ?_ ⟨cs ++ [c], _, _, by rw [List.length_append, hcl]; rfl, fun z hz => ?_, rfl, rfl⟩
      · generalize ((k * k : Nat) : Int) = q at *
        generalize ((b / 2 : Nat) : Int) = q2 at *
        generalize (p.getD y []).getD x 0 = q3 at *
        have hapc := hap c
        generalize G ++ [GO.lst (iW (cs ++ [c]))] = G2 at *
        simp [m2, hla, d3, d4, d5, d6, d7, d8, d9, hix, hpk, hil, hapc]
      · rcases List.mem_append.mp hz with h | h
        · exact hcs z h
        · rw [List.mem_singleton.mp h]; exact hc
    · rintro τ G' ⟨cs, s3, s4, hcl, hcs, rfl, rfl⟩
      rw [rangeW_len] at hcl
      exact ⟨still_nil, cs, s3, s4, rfl, by omega, hcs⟩
  have hG1 := last_get G (.lst (iW cs))
  obtain ⟨e, he, hel⟩ := mod_nat ((r : Int) / 11) (m := 2) (by omega)
  have d1 := fFdiv_int (i := (r : Int)) (j := 11) (G := G ++ [.lst (iW cs)]) (by omega) (by decide)
  have d2 := fMod_int (i := (r : Int) / 11) (j := 2) (G := G ++ [.lst (iW cs)]) (by omega)
  rw [show (r : Int) / 11 % 2 = e from he] at d2
  have hsl := fSl_loc hG1 none (some (e : Int))
  rw [cut_to] at hsl
  have hadd := fAdd_locL (us := (iW cs).take e) hG1 (by rw [List.length_map, List.length_take, List.length_map]; omega)
  have e2 : iW cs ++ (iW cs).take e = iW (cs ++ cs.take e) := by rw [iW_app, iW_take]
  rw [e2] at hadd
  refine ⟨cs ++ cs.take e, [.lst (iW cs), .lst (iW (cs ++ cs.take e))], G.length + 1, ?_, by omega, ?_, by rw [List.length_append, List.length_take]; omega, fun c hc => ?_⟩
  · refine mDef_ok [some (.int r), some (.loc n), none, none, none] ?_
    unfold b_law_some
    rw [seq_nx (τ1 := [some (.int r), some (.loc n), some (.loc G.length), none, none]) (G1 := G ++ [.lst (iW [])]) (by simp)]
    rw [seq_nx hw]
    rw [show G ++ [GO.lst (iW cs), GO.lst (iW (cs ++ cs.take e))] = G ++ [GO.lst (iW cs)] ++ [GO.lst (iW (cs ++ cs.take e))] by simp]
    have hlen : (G ++ [GO.lst (iW cs)]).length = G.length + 1 := by simp
    generalize G ++ [GO.lst (iW cs)] = G1 at *
    generalize (iW cs).take e = Z at *
    generalize iW (cs ++ cs.take e) = Y at *
    simp [d1, d2, hsl, hadd, hlen]
  · rw [show G ++ [GO.lst (iW cs), GO.lst (iW (cs ++ cs.take e))] = G ++ [GO.lst (iW cs)] ++ [GO.lst (iW (cs ++ cs.take e))] by simp]
    have := last_get (G ++ [GO.lst (iW cs)]) (.lst (iW (cs ++ cs.take e)))
    rwa [show (G ++ [GO.lst (iW cs)]).length = G.length + 1 by simp] at this
  · rcases List.mem_append.mp hc with h | h
    · exact hcs c h
    · exact hcs c (List.mem_of_mem_take h)
end Lk08
set_option Elab.async false
set_option linter.all false
set_option maxRecDepth 100000
set_option maxHeartbeats 4000000
namespace Lk08
open PySem PySem.Spec PyProof.Rows L2 Sy
/-! words of refusals -/
theorem wrong_cell_eq (r : Nat) (G : GH) : ∃ w, m_law_wrong_cell [.int r] G = .ok w (G ++ [.lst [.int 0]]) ∧ okW (G ++ [.lst [.int 0]]) w ∧ noFrl w = true ∧ cellW w = false ∧ ∀ cs, lstOf (G ++ [.lst [.int 0]]) w = some cs → cs.length ≤ 100000 ∧ ∀ c ∈ cs, okW (G ++ [.lst [.int 0]]) c := by
  obtain ⟨k, hk, hk9⟩ := mod_nat (r : Int) (m := 9) (by decide)
  have hk' : (r : Int) % 9 = k := hk
  have hm := fMod_int (i := (r : Int)) (j := 9) (G := G ++ [.lst [.int 0]]) (by omega)
  rw [hk'] at hm
  have hp20 := fPow_20
  have key : ∃ w, (∀ G', fIx (.tmp [.int 16, .int (-1), .bl true, .non, .str "0", .loc G.length, .int (10 ^ 20), .bl false, .tup [.int 0]]) (.val (.int k)) G' = .ok (.val w) G') ∧ okW (G ++ [.lst [.int 0]]) w ∧ noFrl w = true ∧ cellW w = false ∧ ∀ cs, lstOf (G ++ [.lst [.int 0]]) w = some cs → cs.length ≤ 100000 ∧ ∀ c ∈ cs, okW (G ++ [.lst [.int 0]]) c := by
    have : k = 0 ∨ k = 1 ∨ k = 2 ∨ k = 3 ∨ k = 4 ∨ k = 5 ∨ k = 6 ∨ k = 7 ∨ k = 8 := by omega
    have hl := last_get G (.lst [.int 0])
    rcases this with rfl | rfl | rfl | rfl | rfl | rfl | rfl | rfl | rfl
    · exact ⟨_, fun _ => fIx_tmp (k := 0) rfl, rfl, rfl, by decide, fun cs h => by cases h⟩
    · exact ⟨_, fun _ => fIx_tmp (k := 1) rfl, rfl, rfl, by decide, fun cs h => by cases h⟩
    · exact ⟨_, fun _ => fIx_tmp (k := 2) rfl, rfl, rfl, by decide, fun cs h => by cases h⟩
    · exact ⟨_, fun _ => fIx_tmp (k := 3) rfl, rfl, rfl, by decide, fun cs h => by cases h⟩
    · exact ⟨_, fun _ => fIx_tmp (k := 4) rfl, rfl, rfl, by decide, fun cs h => by cases h⟩
    · refine ⟨_, fun _ => fIx_tmp (k := 5) rfl, ?_, rfl, rfl, fun cs h => ?_⟩
      · unfold okW tyOf
        simp
      · rw [lstOf_loc hl] at h
        cases h
        exact ⟨by decide, fun c hc => by rw [List.mem_singleton.mp hc]; rfl⟩
    · exact ⟨_, fun _ => fIx_tmp (k := 6) rfl, rfl, rfl, by decide, fun cs h => by cases h⟩
    · exact ⟨_, fun _ => fIx_tmp (k := 7) rfl, rfl, rfl, by decide, fun cs h => by cases h⟩
    · exact ⟨_, fun _ => fIx_tmp (k := 8) rfl, rfl, rfl, by decide, fun cs h => by cases h⟩
  obtain ⟨w, hw, h1, h2, h3, h4⟩ := key
  refine ⟨w, mDef_ok [some (.int r)] ?_, h1, h2, h3, h4⟩
  unfold b_law_wrong_cell
  have hw' := hw (G ++ [.lst [.int 0]])
  generalize ((10 ^ 20 : Int)) = q at *
  simp [hp20, hm, hw']
/-- no list of cells -/
def BadL (G : GH) (w : W) : Prop := ∀ xs, m_are_cells [w] (G ++ xs) = .ok (.bl false) (G ++ xs)
theorem BadL.mono {G : GH} {w : W} (h : BadL G w) (xs : GH) : BadL (G ++ xs) w := fun ys => by
  rw [List.append_assoc]
  exact h _
section
variable {G G1 : GH} {n m : Nat} {p q : List (List Int)} {wide : Nat} {rows : List Nat}
/-- what a word tells, now and later -/
def Tells (G : GH) (a : Nat) (b c d e : W) (s : Str) : Prop := ∀ ys, ∃ zs, m_law_word [.int a, b, c, d, e] (G ++ ys) = .ok (.str s) (G ++ ys ++ zs)
theorem word0 {c : Nat} {s : Str} {b o d e : W} (hc : ∀ a G, m_law_class c a [.exn c a] G = .ok (.str s) G) (hx : xsub xt c 0 = some true) (h : m_mask_of [b, e] G = .ex c [] G1) : m_law_word [.int 0, b, o, d, e] G = .ok (.str s) G1 := by
  refine mDef_ok [some (.int 0), some b, some o, some d, some e, none] ?_
  unfold b_law_word
  refine seq_rt (try_ex (c := c) (τ1 := [some (.int 0), some b, some o, some d, some e, none]) (G1 := G1) (by simp [h]) hx fun z => ?_)
  have e2 := hc z G1
  simp [e2, RS.unS]
theorem word1 {c : Nat} {s : Str} {b o d e : W} (hc : ∀ a G, m_law_class c a [.exn c a] G = .ok (.str s) G) (hx : xsub xt c 0 = some true) (h : m_painted [b, d, e] G = .ex c [] G1) : m_law_word [.int 1, b, o, d, e] G = .ok (.str s) G1 := by
  refine mDef_ok [some (.int 1), some b, some o, some d, some e, none] ?_
  unfold b_law_word
  refine seq_rt (try_ex (c := c) (τ1 := [some (.int 1), some b, some o, some d, some e, none]) (G1 := G1) (by simp [h]) hx fun z => ?_)
  have e2 := hc z G1
  simp [e2, RS.unS]
theorem word2 {c : Nat} {s : Str} {b o d e : W} (hc : ∀ a G, m_law_class c a [.exn c a] G = .ok (.str s) G) (hx : xsub xt c 0 = some true) (h : m_chosen_cells [b, o, d] G = .ex c [] G1) : m_law_word [.int 2, b, o, d, e] G = .ok (.str s) G1 := by
  refine mDef_ok [some (.int 2), some b, some o, some d, some e, none] ?_
  unfold b_law_word
  refine seq_rt (try_ex (c := c) (τ1 := [some (.int 2), some b, some o, some d, some e, none]) (G1 := G1) (by simp [h]) hx fun z => ?_)
  have e2 := hc z G1
  simp [e2, RS.unS]
theorem t0_pic {b o d e : W} (hb : BadP G b) : Tells G 0 b o d e "value picture" := fun ys => ⟨[], by
  have h := need_picture_bad (hb ys)
  rw [List.append_nil]
  refine word0 class_1 rfl (mDef_ex [some b, some e, none] (τ1 := [some b, some e, none]) ?_)
  unfold b_mask_of
  exact seq_ex (by simp [h])⟩
theorem t0_cell {o d e : W} (hp : PicAt G n p) (g : Good p wide) (hb : BadL G e) : Tells G 0 (.loc n) o d e "value cell" := fun ys => ⟨[], by
  have h := need_of (hp.keep (Keeps.app G ys)) g
  have h2 := hb ys
  rw [List.append_nil]
  refine word0 class_2 rfl (mDef_ex [some (.loc n), some e, none] (τ1 := [some (.loc n), some e, none]) ?_)
  unfold b_mask_of
  rw [seq_nx (τ1 := [some (.loc n), some e, none]) (G1 := G ++ ys) (by simp [h])]
  rw [seq_yes (G1 := G ++ ys) (by simp [h2])]
  rfl⟩
theorem t1_pic {b o d e : W} (hb : BadP G b) : Tells G 1 b o d e "value picture" := fun ys => ⟨[], by
  have h := need_picture_bad (hb ys)
  rw [List.append_nil]
  refine word1 class_1 rfl (mDef_ex [some b, some d, some e, none, none] (τ1 := [some b, some d, some e, none, none]) ?_)
  unfold b_painted
  exact seq_ex (by simp [h])⟩
theorem t1_mask {o d e : W} (hp : PicAt G n p) (g : Good p wide) (hb : Bad G d) : Tells G 1 (.loc n) o d e "value mask" := fun ys => ⟨[.lst [d]], by
  have h := need_of (hp.keep (Keeps.app G ys)) g
  have h2 := need_masks_bad (G := G ++ ys ++ [.lst [d]]) (n := (G ++ ys).length) (w := d) (ws := []) (last_get _ _) (by have := hb (ys ++ [.lst [d]]); rwa [← List.append_assoc] at this)
  generalize G ++ ys = G0 at *
  refine word1 class_5 rfl (mDef_ex [some (.loc n), some d, some e, none, none] (τ1 := [some (.loc n), some d, some e, none, none]) ?_)
  unfold b_painted
  rw [seq_nx (τ1 := [some (.loc n), some d, some e, none, none]) (G1 := G0) (by simp [h])]
  exact seq_ex (by simp [h2])⟩
theorem t1_size {o e : W} {w2 : Nat} (hp : PicAt G n p) (g : Good p wide) (gm : GoodM w2 rows) (hne : w2 ≠ wide ∨ rows.length ≠ p.length) : Tells G 1 (.loc n) o (mk w2 rows) e "value size" := fun ys => ⟨[.lst [mk w2 rows]], by
  have hp' := hp.keep (Keeps.app G ys)
  have h := need_of hp' g
  generalize G ++ ys = G0 at *
  have h2 := need_mask1 gm G0
  have h3 := need_fit_bad (hp'.keep (Keeps.app G0 [.lst [mk w2 rows]])) g hne
  generalize mk w2 rows = d at *
  refine word1 class_3 rfl (mDef_ex [some (.loc n), some d, some e, none, none] (τ1 := [some (.loc n), some d, some e, none, none]) ?_)
  unfold b_painted
  rw [seq_nx (τ1 := [some (.loc n), some d, some e, none, none]) (G1 := G0) (by simp [h])]
  rw [seq_nx (τ1 := [some (.loc n), some d, some e, none, none]) (G1 := G0 ++ [.lst [d]]) (by simp [h2])]
  exact seq_ex (by simp [h3])⟩
theorem t1_cell {o e : W} (hp : PicAt G n p) (g : Good p wide) (gm : GoodM wide rows) (hl : rows.length = p.length) (ho : okW G e) (hc : cellW e = false) : Tells G 1 (.loc n) o (mk wide rows) e "value cell" := fun ys => ⟨[.lst [mk wide rows]], by
  have hp' := hp.keep (Keeps.app G ys)
  have h := need_of hp' g
  have ho' := okW_app ys ho
  generalize G ++ ys = G0 at *
  have h2 := need_mask1 gm G0
  have h3 := need_fit_ok (hp'.keep (Keeps.app G0 [.lst [mk wide rows]])) g hl
  have h4 := cells_bad (okW_app [.lst [mk wide rows]] ho') hc
  generalize mk wide rows = d at *
  refine word1 class_2 rfl (mDef_ex [some (.loc n), some d, some e, none, none] (τ1 := [some (.loc n), some d, some e, none, none]) ?_)
  unfold b_painted
  rw [seq_nx (τ1 := [some (.loc n), some d, some e, none, none]) (G1 := G0) (by simp [h])]
  rw [seq_nx (τ1 := [some (.loc n), some d, some e, none, none]) (G1 := G0 ++ [.lst [d]]) (by simp [h2])]
  rw [seq_nx (τ1 := [some (.loc n), some d, some e, none, none]) (G1 := G0 ++ [.lst [d]]) (by simp [h3])]
  exact seq_ex (by simp [h4])⟩
theorem t2_pic {b o d e : W} (hb : BadP G b) : Tells G 2 b o d e "value picture" := fun ys => ⟨[], by
  have h := need_picture_bad (hb ys)
  rw [List.append_nil]
  refine word2 class_1 rfl (mDef_ex [some b, some o, some d, none] (τ1 := [some b, some o, some d, none]) ?_)
  unfold b_chosen_cells
  exact seq_ex (by simp [h])⟩
theorem t2_pic2 {o d e : W} (hp : PicAt G n p) (g : Good p wide) (hb : BadP G o) : Tells G 2 (.loc n) o d e "value picture" := fun ys => ⟨[], by
  have h := need_of (hp.keep (Keeps.app G ys)) g
  have h2 := need_picture_bad (hb ys)
  rw [List.append_nil]
  refine word2 class_1 rfl (mDef_ex [some (.loc n), some o, some d, none] (τ1 := [some (.loc n), some o, some d, none]) ?_)
  unfold b_chosen_cells
  rw [seq_nx (τ1 := [some (.loc n), some o, some d, none]) (G1 := G ++ ys) (by simp [h])]
  exact seq_ex (by simp [h2])⟩
theorem t2_mask {d e : W} {w2 : Nat} (hp : PicAt G n p) (g : Good p wide) (hq : PicAt G m q) (g2 : Good q w2) (hb : Bad G d) : Tells G 2 (.loc n) (.loc m) d e "value mask" := fun ys => ⟨[.lst [d]], by
  have h := need_of (hp.keep (Keeps.app G ys)) g
  have h0 := need_of (hq.keep (Keeps.app G ys)) g2
  have h2 := need_masks_bad (G := G ++ ys ++ [.lst [d]]) (n := (G ++ ys).length) (w := d) (ws := []) (last_get _ _) (by have := hb (ys ++ [.lst [d]]); rwa [← List.append_assoc] at this)
  generalize G ++ ys = G0 at *
  refine word2 class_5 rfl (mDef_ex [some (.loc n), some (.loc m), some d, none] (τ1 := [some (.loc n), some (.loc m), some d, none]) ?_)
  unfold b_chosen_cells
  rw [seq_nx (τ1 := [some (.loc n), some (.loc m), some d, none]) (G1 := G0) (by simp [h])]
  rw [seq_nx (τ1 := [some (.loc n), some (.loc m), some d, none]) (G1 := G0) (by simp [h0])]
  exact seq_ex (by simp [h2])⟩
theorem t2_unlike {e : W} {w2 w3 : Nat} (hp : PicAt G n p) (g : Good p wide) (hq : PicAt G m q) (g2 : Good q w2) (gm : GoodM w3 rows) (hne : w2 ≠ wide ∨ q.length ≠ p.length) : Tells G 2 (.loc n) (.loc m) (mk w3 rows) e "value size" := fun ys => ⟨[.lst [mk w3 rows]], by
  have hp' := hp.keep (Keeps.app G ys)
  have hq' := hq.keep (Keeps.app G ys)
  have h := need_of hp' g
  have h0 := need_of hq' g2
  generalize G ++ ys = G0 at *
  have h2 := need_mask1 gm G0
  obtain ⟨ms, hR⟩ := hp'.keep (Keeps.app G0 [.lst [mk w3 rows]])
  obtain ⟨ks, hQ⟩ := hq'.keep (Keeps.app G0 [.lst [mk w3 rows]])
  obtain ⟨a0, d2, d3⟩ := len_row0 hR g
  obtain ⟨b0, e2, e3⟩ := len_row0 hQ g2
  have d1 := len_pic hR
  have e1 := len_pic hQ
  generalize mk w3 rows = d at *
  refine word2 class_3 rfl (mDef_ex [some (.loc n), some (.loc m), some d, none] (τ1 := [some (.loc n), some (.loc m), some d, none]) ?_)
  unfold b_chosen_cells
  rw [seq_nx (τ1 := [some (.loc n), some (.loc m), some d, none]) (G1 := G0) (by simp [h])]
  rw [seq_nx (τ1 := [some (.loc n), some (.loc m), some d, none]) (G1 := G0) (by simp [h0])]
  rw [seq_nx (τ1 := [some (.loc n), some (.loc m), some d, none]) (G1 := G0 ++ [.lst [d]]) (by simp [h2])]
  have hyes : (mOr (mB (mBin fNe (mBi fLen (mConsT (mVar 1) mNilT)) (mBi fLen (mConsT (mVar 0) mNilT)))) (mB (mBin fNe (mBi fLen (mConsT (mBin fIx (mVar 1) (mC (.int 0))) mNilT)) (mBi fLen (mConsT (mBin fIx (mVar 0) (mC (.int 0))) mNilT))))) [some (.loc n), some (.loc m), some d, none] (G0 ++ [.lst [d]]) = .ok true (G0 ++ [.lst [d]]) := by
    by_cases hq : q.length = p.length
    · have hw : ¬ (w2 : Int) = wide := fun z => (hne.resolve_right fun f => f hq) (Int.natCast_inj.mp z)
      simp [d1, d2, d3, e1, e2, e3, hq, hw]
    · have hq' : ¬ (q.length : Int) = p.length := fun z => hq (Int.natCast_inj.mp z)
      simp [d1, e1, hq']
  rw [seq_yes hyes]
  rfl⟩
theorem t2_size {e : W} {w3 : Nat} (hp : PicAt G n p) (g : Good p wide) (hq : PicAt G m q) (g2 : Good q wide) (hl : q.length = p.length) (gm : GoodM w3 rows) (hne : w3 ≠ wide ∨ rows.length ≠ p.length) : Tells G 2 (.loc n) (.loc m) (mk w3 rows) e "value size" := fun ys => ⟨[.lst [mk w3 rows]], by
  have hp' := hp.keep (Keeps.app G ys)
  have hq' := hq.keep (Keeps.app G ys)
  have h := need_of hp' g
  have h0 := need_of hq' g2
  generalize G ++ ys = G0 at *
  have h2 := need_mask1 gm G0
  have h3 := need_fit_bad (hp'.keep (Keeps.app G0 [.lst [mk w3 rows]])) g hne
  obtain ⟨ms, hR⟩ := hp'.keep (Keeps.app G0 [.lst [mk w3 rows]])
  obtain ⟨ks, hQ⟩ := hq'.keep (Keeps.app G0 [.lst [mk w3 rows]])
  obtain ⟨a0, d2, d3⟩ := len_row0 hR g
  obtain ⟨b0, e2, e3⟩ := len_row0 hQ g2
  have d1 := len_pic hR
  have e1 := len_pic hQ
  rw [hl] at e1
  generalize mk w3 rows = d at *
  refine word2 class_3 rfl (mDef_ex [some (.loc n), some (.loc m), some d, none] (τ1 := [some (.loc n), some (.loc m), some d, none]) ?_)
  unfold b_chosen_cells
  rw [seq_nx (τ1 := [some (.loc n), some (.loc m), some d, none]) (G1 := G0) (by simp [h])]
  rw [seq_nx (τ1 := [some (.loc n), some (.loc m), some d, none]) (G1 := G0) (by simp [h0])]
  rw [seq_nx (τ1 := [some (.loc n), some (.loc m), some d, none]) (G1 := G0 ++ [.lst [d]]) (by simp [h2])]
  rw [seq_no (G1 := G0 ++ [.lst [d]]) (by simp [d1, d2, d3, e1, e2, e3])]
  exact seq_ex (by simp [h3])⟩
end
end Lk08
set_option Elab.async false
set_option linter.all false
set_option maxRecDepth 100000
set_option maxHeartbeats 4000000
namespace Lk08
open PySem PySem.Spec PyProof.Rows L2 Sy
/-! the refusals, part by part -/
theorem str_ne_self {s : Str} (hv : s.cps.all (· < 0x110000) = true) (G : GH) : fNe (.val (.str s)) (.val (.str s)) G = .ok (.val (.bl false)) G := by
  have h1 : toDT G (.val (.str s)) = some (.str s) := by
    show (if s.cps.all (· < 0x110000) then some (PyData.str s) else none) = _
    rw [if_pos hv]
  exact ne_same h1 h1 rfl
noncomputable abbrev askedB : MS := (sIf (mB (mBin fNe (mCall m_law_word [] (mCons (mVar 17) (mCons (mVar 8) (mCons (mVar 14) (mCons (mVar 16) (mCons (mVar 9) mNil)))))) (mBin fAdd (mC (.str "value ")) (mVar 6)))) (sRet (mC (.bl false))) sNext)
abbrev askedG : MG := (gT (gC (gN 17) (gC (gN 8) (gC (gN 14) (gC (gN 16) (gC (gN 9) (gC (gN 6) gE)))))))
structure AskOk (G : GH) (w : W) : Prop where
  ok : ∃ (a : Nat) (b c d e : W) (s s2 : Str), w = .tup [.int a, b, c, d, e, .str s] ∧ Tells G a b c d e s2 ∧ (∀ G', fAdd (.val (.str "value ")) (.val (.str s)) G' = .ok (.val (.str s2)) G') ∧ s2.cps.all (· < 0x110000) = true
theorem asked_loop {G : GH} {L : Nat} {as : List W} {b0 b1 b2 b3 b5 b7 b10 b11 b12 b13 b15 b18 b19 : Option W} (hL : G[L]? = some (.lst as)) (hQ : ∀ w ∈ as, AskOk G w) :
    ∃ τ' zs, sFor (miA (mVar 4)) askedG askedB [b0, b1, b2, b3, some (.loc L), b5, none, b7, none, none, b10, b11, b12, b13, none, b15, none, none, b18, b19] G = .nx τ' (G ++ zs) := by
  have hit := iterA_at hL
  have hmi : miA (mVar 4) [b0, b1, b2, b3, some (.loc L), b5, none, b7, none, none, b10, b11, b12, b13, none, b15, none, none, b18, b19] G = .ok (as, [(L, as)]) G := by
    simp [miA_at, hit]
  rw [sFor_at, hmi, R.toS_ok]
  refine forL_run (I := fun i τ G' => (∃ c6 c8 c9 c14 c16 c17, τ = [b0, b1, b2, b3, some (.loc L), b5, c6, b7, c8, c9, b10, b11, b12, b13, c14, b15, c16, c17, b18, b19]) ∧ ∃ zs, G' = G ++ zs) (E := fun r => ∃ τ' zs, r = .nx τ' (G ++ zs)) ⟨⟨_, _, _, _, _, _, rfl⟩, [], by simp⟩ ?_ ?_
  · rintro i w τ G' hw ⟨⟨c6, c8, c9, c14, c16, c17, rfl⟩, zs, rfl⟩
    obtain ⟨a, b, c, d, e, s, s2, rfl, ht, hs, hv⟩ := (hQ w (List.mem_of_getElem? hw)).ok
    refine ⟨still_of (get_mono hL zs), [b0, b1, b2, b3, some (.loc L), b5, some (.str s), b7, some b, some e, b10, b11, b12, b13, some c, b15, some d, some (.int a), b18, b19], rfl, ?_⟩
    obtain ⟨ys, hy⟩ := ht zs
    have h2 := hs (G ++ zs ++ ys)
    have h3 := str_ne_self hv (G ++ zs ++ ys)
    refine turn_of (τ := [b0, b1, b2, b3, some (.loc L), b5, some (.str s), b7, some b, some e, b10, b11, b12, b13, some c, b15, some d, some (.int a), b18, b19]) (G := G ++ zs ++ ys) ?_ ⟨⟨_, _, _, _, _, _, rfl⟩, zs ++ ys, by rw [List.append_assoc]⟩
    refine if_no ?_
    generalize G ++ zs ++ ys = G2 at *
    generalize G ++ zs = G1 at *
    simp [hy, h2, h3]
  · rintro τ G' ⟨⟨c6, c8, c9, c14, c16, c17, rfl⟩, zs, rfl⟩
    exact ⟨still_of (get_mono hL zs), _, _, rfl⟩
theorem good_more {q : List (List Int)} {wide : Nat} (g : Good q wide) (hw : wide < 24) : Good (q.map (· ++ [0])) (wide + 1) := by
  refine ⟨by rw [List.length_map]; exact g.h0, by rw [List.length_map]; exact g.h1, by omega, by omega, fun r hr => ?_, fun r hr c hc => ?_⟩
  · obtain ⟨z, hz, rfl⟩ := List.mem_map.mp hr
    rw [List.length_append, g.row z hz]; rfl
  · obtain ⟨z, hz, rfl⟩ := List.mem_map.mp hr
    rcases List.mem_append.mp hc with h | h
    · exact g.cell z hz c h
    · rw [List.mem_singleton.mp h]; decide
theorem rowsAt_of {G : GH} {n : Nat} {ms : List Nat} {q : List (List Int)} (ht : G[n]? = some (.lst (ms.map W.loc))) (hl : ms.length = q.length) (hr : ∀ (i : Nat) m r, ms[i]? = some m → q[i]? = some r → G[m]? = some (.lst (iW r))) : RowsAt G n ms (q.map iW) :=
  ⟨ht, paired_of (by rw [List.length_map]; exact hl) fun i m r e1 e2 => by
    rw [List.getElem?_map] at e2
    cases e3 : q[i]? with
    | none => rw [e3] at e2; cases e2
    | some z =>
      rw [e3] at e2
      cases e2
      exact hr i m z e1 e3⟩
noncomputable abbrev farC : M T := (mIf (mB (mBin fLt (mBi fLen (mConsT (mBin fIx (mVar 1) (mC (.int 0))) mNilT)) (mC (.int 24)))) (mComp (miA (mVar 1)) (gN 19) mYes (mBin fAdd (mVar 19) (mLst (mCons (mC (.int 0)) mNil))) [19]) (mBin fAdd (mSl (mVar 1) (mP (mC (.int 1))) mNoP) (mBin fMul (mSl (mVar 1) mNoP (mP (mC (.int 1)))) (mC (.int 2)))))
noncomputable abbrev farB : MS := (sIf (mAnd (mB (mBin fEq (mBi fLen (mConsT (mBin fIx (mVar 1) (mC (.int 0))) mNilT)) (mC (.int 24)))) (mB (mBin fEq (mBi fLen (mConsT (mVar 1) mNilT)) (mC (.int 24))))) (sSet 7 (mLst (mCons (mLst (mCons (mC (.int 0)) mNil)) mNil))) sNext)
theorem far_eq {G : GH} {m : Nat} {q : List (List Int)} {wide : Nat} {b0 b2 b3 b5 b13 : Option W} (hq : PicAt G m q) (g : Good q wide) :
    ∃ F xs fp fw, PicAt (G ++ xs) F fp ∧ Good fp fw ∧ (fw ≠ wide ∨ fp.length ≠ q.length) ∧ ∀ rest, sSeq (sSet 7 farC) (sSeq farB rest) [b0, some (.loc m), b2, b3, none, b5, none, none, none, none, none, none, none, b13, none, none, none, none, none, none] G =
      rest [b0, some (.loc m), b2, b3, none, b5, none, some (.loc F), none, none, none, none, none, b13, none, none, none, none, none, none] (G ++ xs) := by
  obtain ⟨ks, hQ⟩ := hq
  have gh0 := g.h0
  have gh1 := g.h1
  have gw1 := g.w1
  have hkl : ks.length = q.length := by have := hQ.len; simpa using this
  obtain ⟨b0', e2, e3⟩ := len_row0 hQ g
  have e1 := len_pic hQ
  by_cases hw : wide < 24
  · refine ⟨G.length + q.length, (q.map (· ++ [0])).map (fun r => GO.lst (iW r)) ++ [.lst (locs G.length q.length)], q.map (· ++ [0]), wide + 1, ?_, good_more g hw, .inl (by omega), fun rest => ?_⟩
    · have := (newP_laid G (q.map (· ++ [0]))).pic
      unfold laidR at this
      rw [List.length_map, List.map_map, List.length_map] at this
      exact this
    · have hc : compF [(m, ks.map W.loc)] (gN 19) mYes (mBin fAdd (mVar 19) (mLst (mCons (mC (.int 0)) mNil))) [b0, some (.loc m), b2, b3, none, b5, none, none, none, none, none, none, none, b13, none, none, none, none, none, none] (ks.map W.loc) G = .ok (locs G.length (q.map (· ++ [0])).length) (G ++ (q.map (· ++ [0])).map fun r => .lst (iW r)) := by
        refine compF_allocP (fun r => iW r) (fun xs => still_of (get_mono hQ.top xs)) (paired_map (paired_of (by rw [List.length_map]; exact hkl) fun i k r ek er xs => ⟨_, rfl, rfl, ?_⟩))
        obtain ⟨u, eu, gk⟩ := paired_right hQ.row ek
        rw [List.getElem?_map] at er eu
        cases ez : q[i]? with
        | none => rw [ez] at er; cases er
        | some z =>
          rw [ez] at er eu
          cases er
          cases eu
          have hk := get_mono gk xs
          have hz := g.row z (List.mem_of_getElem? ez)
          have ha := fAdd_locT (us := [W.int 0]) hk (by rw [List.length_map, hz]; simp; omega)
          have e : iW (z ++ [0]) = iW z ++ [.int 0] := iW_app _ _
          show mBin fAdd (mVar 19) (mLst (mCons (mC (.int 0)) mNil)) [b0, some (.loc m), b2, b3, none, b5, none, none, none, none, none, none, none, b13, none, none, none, none, none, some (.loc k)] (G ++ xs) = .ok (.tmp (iW (z ++ [0]))) (G ++ xs)
          rw [e]
          generalize iW z = Z at *
          simp [ha]
      rw [List.length_map] at hc
      have hit := iterA_at hQ.top
      have hl2 : (ks.map W.loc).length ≤ 16777216 := by rw [List.length_map]; omega
      have hlt : (decide ((wide : Int) < 24)) = true := decide_eq_true (by omega)
      have hlt' : ¬ (wide : Int) = 24 := by omega
      rw [seq_nx (τ1 := [b0, some (.loc m), b2, b3, none, b5, none, some (.loc (G.length + q.length)), none, none, none, none, none, b13, none, none, none, none, none, none]) (G1 := G ++ ((q.map (· ++ [0])).map (fun r => GO.lst (iW r)) ++ [.lst (locs G.length q.length)])) (by
        have hlen : (G ++ (q.map (· ++ [0])).map (fun r => GO.lst (iW r))).length = G.length + q.length := by simp
        rw [← List.append_assoc]
        generalize G ++ (q.map (· ++ [0])).map (fun r => GO.lst (iW r)) = G1 at *
        generalize ks.map W.loc = us at *
        generalize locs G.length q.length = vs at *
        have hlt2 : (wide : Int) < 24 := by omega
        simp [e2, e3, hlt2, mComp_at, miA_at, hit, wipeS, hl2, hc, hlen])]
      have hQ2 := hQ.keep (Keeps.app G ((q.map (· ++ [0])).map (fun r => GO.lst (iW r)) ++ [.lst (locs G.length q.length)]))
      obtain ⟨b1', f2, f3⟩ := len_row0 hQ2 g
      generalize G ++ ((q.map (· ++ [0])).map (fun r => GO.lst (iW r)) ++ [.lst (locs G.length q.length)]) = G2 at *
      exact seq_no (by simp [f2, f3, hlt'])
  · have hw24 : wide = 24 := by omega
    have s1 := fSl_loc hQ.top (some ((1 : Nat) : Int)) none
    have s2 := fSl_loc hQ.top none (some ((1 : Nat) : Int))
    rw [cut_from] at s1
    rw [cut_to] at s2
    have hrep := repT (G := G) (ws := (ks.map W.loc).take 1) (k := 2) (by rw [List.length_take]; omega) (by omega)
    have er : repW ((ks.map W.loc).take 1) 2 = (ks.map W.loc).take 1 ++ (ks.map W.loc).take 1 := by
      unfold repW
      simp [List.replicate]
    rw [er] at hrep
    have hadd : fAdd (.tmp ((ks.map W.loc).drop 1)) (.tmp ((ks.map W.loc).take 1 ++ (ks.map W.loc).take 1)) G = .ok (.tmp ((ks.map W.loc).drop 1 ++ ((ks.map W.loc).take 1 ++ (ks.map W.loc).take 1))) G := by
      unfold fAdd
      simp
      omega
    have es : (ks.map W.loc).drop 1 ++ ((ks.map W.loc).take 1 ++ (ks.map W.loc).take 1) = (ks.drop 1 ++ (ks.take 1 ++ ks.take 1)).map W.loc := by
      rw [List.map_append, List.map_append, List.map_drop, List.map_take]
    rw [es] at hadd
    generalize hns : ks.drop 1 ++ (ks.take 1 ++ ks.take 1) = ns at *
    have hset : sSet 7 farC [b0, some (.loc m), b2, b3, none, b5, none, none, none, none, none, none, none, b13, none, none, none, none, none, none] G = .nx [b0, some (.loc m), b2, b3, none, b5, none, some (.loc G.length), none, none, none, none, none, b13, none, none, none, none, none, none] (G ++ [.lst (ns.map W.loc)]) := by
      have hlt2 : ¬ (wide : Int) < 24 := by omega
      have s1' : fSl (.val (.loc m)) (some 1) none G = .ok (.tmp ((ks.map W.loc).drop 1)) G := s1
      have s2' : fSl (.val (.loc m)) none (some 1) G = .ok (.tmp ((ks.map W.loc).take 1)) G := s2
      have hrep' : fMul (.tmp ((ks.map W.loc).take 1)) (.val (.int 2)) G = .ok (.tmp ((ks.map W.loc).take 1 ++ (ks.map W.loc).take 1)) G := hrep
      generalize (ks.map W.loc).take 1 = A at *
      generalize (ks.map W.loc).drop 1 = B at *
      generalize ns.map W.loc = C at *
      simp [e2, e3, hlt2, s1', s2', hrep', hadd]
    by_cases hh : q.length = 24
    · refine ⟨G.length + 2, [.lst (ns.map W.loc), .lst [.int 0], .lst [.loc (G.length + 1)]], [[0]], 1, ?_, ⟨by decide, by decide, by decide, by decide, by simp, by simp⟩, .inl (by omega), fun rest => ?_⟩
      · refine ⟨[G.length + 1], rowsAt_of ?_ rfl fun i m r h1 h2 => ?_⟩
        · simp
        · cases i with
          | zero =>
            cases h1
            cases h2
            simp
          | succ i => cases h1
      · rw [seq_nx hset]
        have hQ2 := hQ.keep (Keeps.app G [.lst (ns.map W.loc)])
        obtain ⟨b1', f2, f3⟩ := len_row0 hQ2 g
        have f1 := len_pic hQ2
        have hlen : (G ++ [GO.lst (ns.map W.loc)]).length = G.length + 1 := by simp
        rw [show G ++ [.lst (ns.map W.loc), .lst [.int 0], .lst [.loc (G.length + 1)]] = G ++ [.lst (ns.map W.loc)] ++ [.lst [.int 0]] ++ [.lst [.loc (G.length + 1)]] by simp]
        generalize G ++ [GO.lst (ns.map W.loc)] = G1 at *
        refine seq_nx ?_
        have hyes : (mAnd (mB (mBin fEq (mBi fLen (mConsT (mBin fIx (mVar 1) (mC (.int 0))) mNilT)) (mC (.int 24)))) (mB (mBin fEq (mBi fLen (mConsT (mVar 1) mNilT)) (mC (.int 24))))) [b0, some (.loc m), b2, b3, none, b5, none, some (.loc G.length), none, none, none, none, none, b13, none, none, none, none, none, none] G1 = .ok true G1 := by
          have hw' : (wide : Int) = 24 := by omega
          have hh' : (q.length : Int) = 24 := by omega
          simp [f1, f2, f3, hw', hh']
        unfold farB
        rw [if_yes hyes]
        simp [hlen]
    · refine ⟨G.length, [.lst (ns.map W.loc)], q.drop 1 ++ (q.take 1 ++ q.take 1), 24, ?_, ?_, .inr (by rw [List.length_append, List.length_append, List.length_drop, List.length_take]; omega), fun rest => ?_⟩
      · have hpr : Paired (fun m r => G[m]? = some (.lst (iW r))) ks q := paired_of hkl fun i k r ek er => by
          obtain ⟨u, eu, gk⟩ := paired_right hQ.row ek
          rw [List.getElem?_map, er] at eu
          cases eu
          exact gk
        have hg : ∀ (i : Nat) k r, ks[i]? = some k → q[i]? = some r → G[k]? = some (.lst (iW r)) := fun i k r a b => paired_get hpr i k r a b
        refine ⟨ns, rowsAt_of (last_get _ _) (by rw [← hns]; simp [hkl]) fun i k r h1 h2 => get_mono ?_ _⟩
        rw [← hns] at h1
        rw [List.getElem?_append] at h1 h2
        rw [List.length_drop] at h1 h2
        rw [hkl] at h1
        split at h1
        · rename_i hi
          rw [if_pos hi] at h2
          rw [List.getElem?_drop] at h1 h2
          exact hg _ k r h1 h2
        · rename_i hi
          rw [if_neg hi] at h2
          rw [List.getElem?_append, List.length_take] at h1 h2
          rw [hkl] at h1
          split at h1
          · rename_i hj
            rw [if_pos hj] at h2
            rw [List.getElem?_take] at h1 h2
            split at h1
            · rename_i hj2
              rw [if_pos hj2] at h2
              exact hg _ k r h1 h2
            · cases h1
          · rename_i hj
            rw [if_neg hj] at h2
            rw [List.getElem?_take] at h1 h2
            split at h1
            · rename_i hj2
              rw [if_pos hj2] at h2
              exact hg _ k r h1 h2
            · cases h1
      · have hm : ∀ r, r ∈ q.drop 1 ++ (q.take 1 ++ q.take 1) → r ∈ q := fun r hr => by
          rcases List.mem_append.mp hr with h | h
          · exact List.mem_of_mem_drop h
          · rcases List.mem_append.mp h with h | h <;> exact List.mem_of_mem_take h
        refine ⟨by rw [List.length_append, List.length_append, List.length_drop, List.length_take]; omega, by rw [List.length_append, List.length_append, List.length_drop, List.length_take]; omega, by decide, by decide, fun r hr => by rw [g.row r (hm r hr), hw24], fun r hr => g.cell r (hm r hr)⟩
      · rw [seq_nx hset]
        have hQ2 := hQ.keep (Keeps.app G [.lst (ns.map W.loc)])
        obtain ⟨b1', f2, f3⟩ := len_row0 hQ2 g
        have f1 := len_pic hQ2
        generalize G ++ [GO.lst (ns.map W.loc)] = G1 at *
        have hw' : (wide : Int) = 24 := by omega
        have hh' : ¬ (q.length : Int) = 24 := by omega
        exact seq_no (by simp [f1, f2, f3, hw', hh'])
end Lk08
set_option Elab.async false
set_option linter.all false
set_option maxRecDepth 100000
set_option maxHeartbeats 4000000
namespace Lk08
open PySem PySem.Spec PyProof.Rows L2 Sy
theorem add_step {τ : Sl} {G : GH} {L : Nat} {as ws : List W} {ms : M (List W)} (h4 : mVar 4 τ G = .ok (.val (.loc L)) G) (hL : G[L]? = some (.lst as)) (hm : ms τ G = .ok ws G) (hl : as.length + ws.length ≤ 1000) : sSet 4 (mBin fAdd (mVar 4) (mLst ms)) τ G = .nx (τ.set 4 (some (.loc G.length))) (G ++ [.lst (as ++ ws)]) := by
  have h := fAdd_locT (us := ws) hL (by omega)
  have h2 : ws.length ≤ 16777216 := by omega
  have e : mBin fAdd (mVar 4) (mLst ms) τ G = .ok (.tmp (as ++ ws)) G := by
    rw [mBin_at, h4]
    simp [hm, h, h2]
  have e2 : mF (mBin fAdd (mVar 4) (mLst ms)) τ G = .ok (.loc G.length) (G ++ [.lst (as ++ ws)]) := by
    show (mBin fAdd (mVar 4) (mLst ms) τ G).bind force = _
    rw [e]
    rfl
  rw [sSet_at, e2]
  rfl
theorem asked_build {G : GH} {a0 a1 a2 a3 a5 a7 a10 a11 a12 a13 a15 a18 : W} {b19 : Option W} (rest : MS) : ∃ L zs, (sSeq (sSet 4 (mLst (mCons (mTup (mCons (mC (.int 0)) (mCons (mVar 5) (mCons (mVar 0) (mCons (mVar 2) (mCons (mVar 10) (mCons (mC (.str "picture")) mNil))))))) (mCons (mTup (mCons (mC (.int 0)) (mCons (mVar 0) (mCons (mVar 0) (mCons (mVar 2) (mCons (mVar 10) (mCons (mC (.str "cell")) mNil))))))) mNil)))) (sSeq (sSet 4 (mBin fAdd (mVar 4) (mLst (mCons (mTup (mCons (mC (.int 1)) (mCons (mVar 5) (mCons (mVar 0) (mCons (mVar 13) (mCons (mVar 12) (mCons (mC (.str "picture")) mNil))))))) (mCons (mTup (mCons (mC (.int 1)) (mCons (mVar 0) (mCons (mVar 0) (mCons (mVar 13) (mCons (mVar 12) (mCons (mC (.str "mask")) mNil))))))) mNil))))) (sSeq (sSet 4 (mBin fAdd (mVar 4) (mLst (mCons (mTup (mCons (mC (.int 1)) (mCons (mVar 0) (mCons (mVar 0) (mCons (mVar 18) (mCons (mVar 12) (mCons (mC (.str "size")) mNil))))))) (mCons (mTup (mCons (mC (.int 1)) (mCons (mVar 0) (mCons (mVar 0) (mCons (mVar 2) (mCons (mVar 12) (mCons (mC (.str "cell")) mNil))))))) mNil))))) (sSeq (sSet 4 (mBin fAdd (mVar 4) (mLst (mCons (mTup (mCons (mC (.int 2)) (mCons (mVar 5) (mCons (mVar 5) (mCons (mVar 13) (mCons (mC (.int 0)) (mCons (mC (.str "picture")) mNil))))))) (mCons (mTup (mCons (mC (.int 2)) (mCons (mVar 0) (mCons (mVar 5) (mCons (mVar 13) (mCons (mC (.int 0)) (mCons (mC (.str "picture")) mNil))))))) mNil))))) (sSeq (sSet 4 (mBin fAdd (mVar 4) (mLst (mCons (mTup (mCons (mC (.int 2)) (mCons (mVar 0) (mCons (mVar 7) (mCons (mVar 13) (mCons (mC (.int 0)) (mCons (mC (.str "mask")) mNil))))))) (mCons (mTup (mCons (mC (.int 2)) (mCons (mVar 0) (mCons (mVar 7) (mCons (mVar 2) (mCons (mC (.int 0)) (mCons (mC (.str "size")) mNil))))))) mNil))))) (sSeq (sSet 4 (mBin fAdd (mVar 4) (mLst (mCons (mTup (mCons (mC (.int 2)) (mCons (mVar 0) (mCons (mVar 1) (mCons (mVar 18) (mCons (mC (.int 0)) (mCons (mC (.str "size")) mNil))))))) (mCons (mTup (mCons (mC (.int 1)) (mCons (mVar 0) (mCons (mVar 0) (mCons (mVar 15) (mCons (mVar 12) (mCons (mC (.str "size")) mNil))))))) mNil))))) (sSeq (sSet 4 (mBin fAdd (mVar 4) (mLst (mCons (mTup (mCons (mC (.int 1)) (mCons (mVar 0) (mCons (mVar 0) (mCons (mVar 11) (mCons (mVar 12) (mCons (mC (.str "size")) mNil))))))) (mCons (mTup (mCons (mC (.int 2)) (mCons (mVar 0) (mCons (mVar 1) (mCons (mVar 15) (mCons (mC (.int 0)) (mCons (mC (.str "size")) mNil))))))) mNil))))) (sSeq (sSet 4 (mBin fAdd (mVar 4) (mLst (mCons (mTup (mCons (mC (.int 2)) (mCons (mVar 0) (mCons (mVar 1) (mCons (mVar 11) (mCons (mC (.int 0)) (mCons (mC (.str "size")) mNil))))))) (mCons (mTup (mCons (mC (.int 2)) (mCons (mVar 5) (mCons (mVar 1) (mCons (mVar 2) (mCons (mC (.int 0)) (mCons (mC (.str "picture")) mNil))))))) mNil))))) rest)))))))) [some a0, some a1, some a2, some a3, none, some a5, none, some a7, none, none, some a10, some a11, some a12, some a13, none, some a15, none, none, some a18, b19] G = rest [some a0, some a1, some a2, some a3, some (.loc L), some a5, none, some a7, none, none, some a10, some a11, some a12, some a13, none, some a15, none, none, some a18, b19] (G ++ zs) ∧ (G ++ zs)[L]? = some (.lst [.tup [.int 0, a5, a0, a2, a10, .str "picture"], .tup [.int 0, a0, a0, a2, a10, .str "cell"], .tup [.int 1, a5, a0, a13, a12, .str "picture"], .tup [.int 1, a0, a0, a13, a12, .str "mask"], .tup [.int 1, a0, a0, a18, a12, .str "size"], .tup [.int 1, a0, a0, a2, a12, .str "cell"], .tup [.int 2, a5, a5, a13, .int 0, .str "picture"], .tup [.int 2, a0, a5, a13, .int 0, .str "picture"], .tup [.int 2, a0, a7, a13, .int 0, .str "mask"], .tup [.int 2, a0, a7, a2, .int 0, .str "size"], .tup [.int 2, a0, a1, a18, .int 0, .str "size"], .tup [.int 1, a0, a0, a15, a12, .str "size"], .tup [.int 1, a0, a0, a11, a12, .str "size"], .tup [.int 2, a0, a1, a15, .int 0, .str "size"], .tup [.int 2, a0, a1, a11, .int 0, .str "size"], .tup [.int 2, a5, a1, a2, .int 0, .str "picture"]]) := by
  rw [seq_nx (τ1 := [some a0, some a1, some a2, some a3, some (.loc G.length), some a5, none, some a7, none, none, some a10, some a11, some a12, some a13, none, some a15, none, none, some a18, b19]) (G1 := G ++ [.lst [.tup [.int 0, a5, a0, a2, a10, .str "picture"], .tup [.int 0, a0, a0, a2, a10, .str "cell"]]]) (by simp)]
  have k0 := last_get G (.lst [.tup [.int 0, a5, a0, a2, a10, .str "picture"], .tup [.int 0, a0, a0, a2, a10, .str "cell"]])
  generalize h0 : G ++ [GO.lst [.tup [.int 0, a5, a0, a2, a10, .str "picture"], .tup [.int 0, a0, a0, a2, a10, .str "cell"]]] = G0 at *
  have p0 : ∃ zs, G0 = G ++ zs := ⟨_, h0.symm⟩
  generalize G.length = L0 at *
  clear h0
  have s1 := add_step (τ := [some a0, some a1, some a2, some a3, some (.loc L0), some a5, none, some a7, none, none, some a10, some a11, some a12, some a13, none, some a15, none, none, some a18, b19]) (G := G0) (L := L0) (ms := (mCons (mTup (mCons (mC (.int 1)) (mCons (mVar 5) (mCons (mVar 0) (mCons (mVar 13) (mCons (mVar 12) (mCons (mC (.str "picture")) mNil))))))) (mCons (mTup (mCons (mC (.int 1)) (mCons (mVar 0) (mCons (mVar 0) (mCons (mVar 13) (mCons (mVar 12) (mCons (mC (.str "mask")) mNil))))))) mNil))) (ws := [.tup [.int 1, a5, a0, a13, a12, .str "picture"], .tup [.int 1, a0, a0, a13, a12, .str "mask"]]) rfl k0 (by simp) (by simp)
  have t1 : List.set [some a0, some a1, some a2, some a3, some (.loc L0), some a5, none, some a7, none, none, some a10, some a11, some a12, some a13, none, some a15, none, none, some a18, b19] 4 (some (.loc G0.length)) = [some a0, some a1, some a2, some a3, some (.loc G0.length), some a5, none, some a7, none, none, some a10, some a11, some a12, some a13, none, some a15, none, none, some a18, b19] := rfl
  rw [t1] at s1
  rw [show ([.tup [.int 0, a5, a0, a2, a10, .str "picture"], .tup [.int 0, a0, a0, a2, a10, .str "cell"]] ++ [.tup [.int 1, a5, a0, a13, a12, .str "picture"], .tup [.int 1, a0, a0, a13, a12, .str "mask"]] : List W) = [.tup [.int 0, a5, a0, a2, a10, .str "picture"], .tup [.int 0, a0, a0, a2, a10, .str "cell"], .tup [.int 1, a5, a0, a13, a12, .str "picture"], .tup [.int 1, a0, a0, a13, a12, .str "mask"]] from rfl] at s1
  rw [seq_nx s1]
  have k1 := last_get G0 (.lst [.tup [.int 0, a5, a0, a2, a10, .str "picture"], .tup [.int 0, a0, a0, a2, a10, .str "cell"], .tup [.int 1, a5, a0, a13, a12, .str "picture"], .tup [.int 1, a0, a0, a13, a12, .str "mask"]])
  clear s1 t1
  generalize h1 : G0 ++ [GO.lst [.tup [.int 0, a5, a0, a2, a10, .str "picture"], .tup [.int 0, a0, a0, a2, a10, .str "cell"], .tup [.int 1, a5, a0, a13, a12, .str "picture"], .tup [.int 1, a0, a0, a13, a12, .str "mask"]]] = G1 at *
  generalize G0.length = L1 at *
  have p1 : ∃ zs, G1 = G ++ zs := by
    obtain ⟨zs, rfl⟩ := p0
    exact ⟨_, by rw [← h1, List.append_assoc]⟩
  clear h1 k0 p0
  have s2 := add_step (τ := [some a0, some a1, some a2, some a3, some (.loc L1), some a5, none, some a7, none, none, some a10, some a11, some a12, some a13, none, some a15, none, none, some a18, b19]) (G := G1) (L := L1) (ms := (mCons (mTup (mCons (mC (.int 1)) (mCons (mVar 0) (mCons (mVar 0) (mCons (mVar 18) (mCons (mVar 12) (mCons (mC (.str "size")) mNil))))))) (mCons (mTup (mCons (mC (.int 1)) (mCons (mVar 0) (mCons (mVar 0) (mCons (mVar 2) (mCons (mVar 12) (mCons (mC (.str "cell")) mNil))))))) mNil))) (ws := [.tup [.int 1, a0, a0, a18, a12, .str "size"], .tup [.int 1, a0, a0, a2, a12, .str "cell"]]) rfl k1 (by simp) (by simp)
  have t2 : List.set [some a0, some a1, some a2, some a3, some (.loc L1), some a5, none, some a7, none, none, some a10, some a11, some a12, some a13, none, some a15, none, none, some a18, b19] 4 (some (.loc G1.length)) = [some a0, some a1, some a2, some a3, some (.loc G1.length), some a5, none, some a7, none, none, some a10, some a11, some a12, some a13, none, some a15, none, none, some a18, b19] := rfl
  rw [t2] at s2
  rw [show ([.tup [.int 0, a5, a0, a2, a10, .str "picture"], .tup [.int 0, a0, a0, a2, a10, .str "cell"], .tup [.int 1, a5, a0, a13, a12, .str "picture"], .tup [.int 1, a0, a0, a13, a12, .str "mask"]] ++ [.tup [.int 1, a0, a0, a18, a12, .str "size"], .tup [.int 1, a0, a0, a2, a12, .str "cell"]] : List W) = [.tup [.int 0, a5, a0, a2, a10, .str "picture"], .tup [.int 0, a0, a0, a2, a10, .str "cell"], .tup [.int 1, a5, a0, a13, a12, .str "picture"], .tup [.int 1, a0, a0, a13, a12, .str "mask"], .tup [.int 1, a0, a0, a18, a12, .str "size"], .tup [.int 1, a0, a0, a2, a12, .str "cell"]] from rfl] at s2
  rw [seq_nx s2]
  have k2 := last_get G1 (.lst [.tup [.int 0, a5, a0, a2, a10, .str "picture"], .tup [.int 0, a0, a0, a2, a10, .str "cell"], .tup [.int 1, a5, a0, a13, a12, .str "picture"], .tup [.int 1, a0, a0, a13, a12, .str "mask"], .tup [.int 1, a0, a0, a18, a12, .str "size"], .tup [.int 1, a0, a0, a2, a12, .str "cell"]])
  clear s2 t2
  generalize h2 : G1 ++ [GO.lst [.tup [.int 0, a5, a0, a2, a10, .str "picture"], .tup [.int 0, a0, a0, a2, a10, .str "cell"], .tup [.int 1, a5, a0, a13, a12, .str "picture"], .tup [.int 1, a0, a0, a13, a12, .str "mask"], .tup [.int 1, a0, a0, a18, a12, .str "size"], .tup [.int 1, a0, a0, a2, a12, .str "cell"]]] = G2 at *
  generalize G1.length = L2 at *
  have p2 : ∃ zs, G2 = G ++ zs := by
    obtain ⟨zs, rfl⟩ := p1
    exact ⟨_, by rw [← h2, List.append_assoc]⟩
  clear h2 k1 p1
  have s3 := add_step (τ := [some a0, some a1, some a2, some a3, some (.loc L2), some a5, none, some a7, none, none, some a10, some a11, some a12, some a13, none, some a15, none, none, some a18, b19]) (G := G2) (L := L2) (ms := (mCons (mTup (mCons (mC (.int 2)) (mCons (mVar 5) (mCons (mVar 5) (mCons (mVar 13) (mCons (mC (.int 0)) (mCons (mC (.str "picture")) mNil))))))) (mCons (mTup (mCons (mC (.int 2)) (mCons (mVar 0) (mCons (mVar 5) (mCons (mVar 13) (mCons (mC (.int 0)) (mCons (mC (.str "picture")) mNil))))))) mNil))) (ws := [.tup [.int 2, a5, a5, a13, .int 0, .str "picture"], .tup [.int 2, a0, a5, a13, .int 0, .str "picture"]]) rfl k2 (by simp) (by simp)
  have t3 : List.set [some a0, some a1, some a2, some a3, some (.loc L2), some a5, none, some a7, none, none, some a10, some a11, some a12, some a13, none, some a15, none, none, some a18, b19] 4 (some (.loc G2.length)) = [some a0, some a1, some a2, some a3, some (.loc G2.length), some a5, none, some a7, none, none, some a10, some a11, some a12, some a13, none, some a15, none, none, some a18, b19] := rfl
  rw [t3] at s3
  rw [show ([.tup [.int 0, a5, a0, a2, a10, .str "picture"], .tup [.int 0, a0, a0, a2, a10, .str "cell"], .tup [.int 1, a5, a0, a13, a12, .str "picture"], .tup [.int 1, a0, a0, a13, a12, .str "mask"], .tup [.int 1, a0, a0, a18, a12, .str "size"], .tup [.int 1, a0, a0, a2, a12, .str "cell"]] ++ [.tup [.int 2, a5, a5, a13, .int 0, .str "picture"], .tup [.int 2, a0, a5, a13, .int 0, .str "picture"]] : List W) = [.tup [.int 0, a5, a0, a2, a10, .str "picture"], .tup [.int 0, a0, a0, a2, a10, .str "cell"], .tup [.int 1, a5, a0, a13, a12, .str "picture"], .tup [.int 1, a0, a0, a13, a12, .str "mask"], .tup [.int 1, a0, a0, a18, a12, .str "size"], .tup [.int 1, a0, a0, a2, a12, .str "cell"], .tup [.int 2, a5, a5, a13, .int 0, .str "picture"], .tup [.int 2, a0, a5, a13, .int 0, .str "picture"]] from rfl] at s3
  rw [seq_nx s3]
  have k3 := last_get G2 (.lst [.tup [.int 0, a5, a0, a2, a10, .str "picture"], .tup [.int 0, a0, a0, a2, a10, .str "cell"], .tup [.int 1, a5, a0, a13, a12, .str "picture"], .tup [.int 1, a0, a0, a13, a12, .str "mask"], .tup [.int 1, a0, a0, a18, a12, .str "size"], .tup [.int 1, a0, a0, a2, a12, .str "cell"], .tup [.int 2, a5, a5, a13, .int 0, .str "picture"], .tup [.int 2, a0, a5, a13, .int 0, .str "picture"]])
  clear s3 t3
  generalize h3 : G2 ++ [GO.lst [.tup [.int 0, a5, a0, a2, a10, .str "picture"], .tup [.int 0, a0, a0, a2, a10, .str "cell"], .tup [.int 1, a5, a0, a13, a12, .str "picture"], .tup [.int 1, a0, a0, a13, a12, .str "mask"], .tup [.int 1, a0, a0, a18, a12, .str "size"], .tup [.int 1, a0, a0, a2, a12, .str "cell"], .tup [.int 2, a5, a5, a13, .int 0, .str "picture"], .tup [.int 2, a0, a5, a13, .int 0, .str "picture"]]] = G3 at *
  generalize G2.length = L3 at *
  have p3 : ∃ zs, G3 = G ++ zs := by
    obtain ⟨zs, rfl⟩ := p2
    exact ⟨_, by rw [← h3, List.append_assoc]⟩
  clear h3 k2 p2
  have s4 := add_step (τ := [some a0, some a1, some a2, some a3, some (.loc L3), some a5, none, some a7, none, none, some a10, some a11, some a12, some a13, none, some a15, none, none, some a18, b19]) (G := G3) (L := L3) (ms := (mCons (mTup (mCons (mC (.int 2)) (mCons (mVar 0) (mCons (mVar 7) (mCons (mVar 13) (mCons (mC (.int 0)) (mCons (mC (.str "mask")) mNil))))))) (mCons (mTup (mCons (mC (.int 2)) (mCons (mVar 0) (mCons (mVar 7) (mCons (mVar 2) (mCons (mC (.int 0)) (mCons (mC (.str "size")) mNil))))))) mNil))) (ws := [.tup [.int 2, a0, a7, a13, .int 0, .str "mask"], .tup [.int 2, a0, a7, a2, .int 0, .str "size"]]) rfl k3 (by simp) (by simp)
  have t4 : List.set [some a0, some a1, some a2, some a3, some (.loc L3), some a5, none, some a7, none, none, some a10, some a11, some a12, some a13, none, some a15, none, none, some a18, b19] 4 (some (.loc G3.length)) = [some a0, some a1, some a2, some a3, some (.loc G3.length), some a5, none, some a7, none, none, some a10, some a11, some a12, some a13, none, some a15, none, none, some a18, b19] := rfl
  rw [t4] at s4
  rw [show ([.tup [.int 0, a5, a0, a2, a10, .str "picture"], .tup [.int 0, a0, a0, a2, a10, .str "cell"], .tup [.int 1, a5, a0, a13, a12, .str "picture"], .tup [.int 1, a0, a0, a13, a12, .str "mask"], .tup [.int 1, a0, a0, a18, a12, .str "size"], .tup [.int 1, a0, a0, a2, a12, .str "cell"], .tup [.int 2, a5, a5, a13, .int 0, .str "picture"], .tup [.int 2, a0, a5, a13, .int 0, .str "picture"]] ++ [.tup [.int 2, a0, a7, a13, .int 0, .str "mask"], .tup [.int 2, a0, a7, a2, .int 0, .str "size"]] : List W) = [.tup [.int 0, a5, a0, a2, a10, .str "picture"], .tup [.int 0, a0, a0, a2, a10, .str "cell"], .tup [.int 1, a5, a0, a13, a12, .str "picture"], .tup [.int 1, a0, a0, a13, a12, .str "mask"], .tup [.int 1, a0, a0, a18, a12, .str "size"], .tup [.int 1, a0, a0, a2, a12, .str "cell"], .tup [.int 2, a5, a5, a13, .int 0, .str "picture"], .tup [.int 2, a0, a5, a13, .int 0, .str "picture"], .tup [.int 2, a0, a7, a13, .int 0, .str "mask"], .tup [.int 2, a0, a7, a2, .int 0, .str "size"]] from rfl] at s4
  rw [seq_nx s4]
  have k4 := last_get G3 (.lst [.tup [.int 0, a5, a0, a2, a10, .str "picture"], .tup [.int 0, a0, a0, a2, a10, .str "cell"], .tup [.int 1, a5, a0, a13, a12, .str "picture"], .tup [.int 1, a0, a0, a13, a12, .str "mask"], .tup [.int 1, a0, a0, a18, a12, .str "size"], .tup [.int 1, a0, a0, a2, a12, .str "cell"], .tup [.int 2, a5, a5, a13, .int 0, .str "picture"], .tup [.int 2, a0, a5, a13, .int 0, .str "picture"], .tup [.int 2, a0, a7, a13, .int 0, .str "mask"], .tup [.int 2, a0, a7, a2, .int 0, .str "size"]])
  clear s4 t4
  generalize h4 : G3 ++ [GO.lst [.tup [.int 0, a5, a0, a2, a10, .str "picture"], .tup [.int 0, a0, a0, a2, a10, .str "cell"], .tup [.int 1, a5, a0, a13, a12, .str "picture"], .tup [.int 1, a0, a0, a13, a12, .str "mask"], .tup [.int 1, a0, a0, a18, a12, .str "size"], .tup [.int 1, a0, a0, a2, a12, .str "cell"], .tup [.int 2, a5, a5, a13, .int 0, .str "picture"], .tup [.int 2, a0, a5, a13, .int 0, .str "picture"], .tup [.int 2, a0, a7, a13, .int 0, .str "mask"], .tup [.int 2, a0, a7, a2, .int 0, .str "size"]]] = G4 at *
  generalize G3.length = L4 at *
  have p4 : ∃ zs, G4 = G ++ zs := by
    obtain ⟨zs, rfl⟩ := p3
    exact ⟨_, by rw [← h4, List.append_assoc]⟩
  clear h4 k3 p3
  have s5 := add_step (τ := [some a0, some a1, some a2, some a3, some (.loc L4), some a5, none, some a7, none, none, some a10, some a11, some a12, some a13, none, some a15, none, none, some a18, b19]) (G := G4) (L := L4) (ms := (mCons (mTup (mCons (mC (.int 2)) (mCons (mVar 0) (mCons (mVar 1) (mCons (mVar 18) (mCons (mC (.int 0)) (mCons (mC (.str "size")) mNil))))))) (mCons (mTup (mCons (mC (.int 1)) (mCons (mVar 0) (mCons (mVar 0) (mCons (mVar 15) (mCons (mVar 12) (mCons (mC (.str "size")) mNil))))))) mNil))) (ws := [.tup [.int 2, a0, a1, a18, .int 0, .str "size"], .tup [.int 1, a0, a0, a15, a12, .str "size"]]) rfl k4 (by simp) (by simp)
  have t5 : List.set [some a0, some a1, some a2, some a3, some (.loc L4), some a5, none, some a7, none, none, some a10, some a11, some a12, some a13, none, some a15, none, none, some a18, b19] 4 (some (.loc G4.length)) = [some a0, some a1, some a2, some a3, some (.loc G4.length), some a5, none, some a7, none, none, some a10, some a11, some a12, some a13, none, some a15, none, none, some a18, b19] := rfl
  rw [t5] at s5
  rw [show ([.tup [.int 0, a5, a0, a2, a10, .str "picture"], .tup [.int 0, a0, a0, a2, a10, .str "cell"], .tup [.int 1, a5, a0, a13, a12, .str "picture"], .tup [.int 1, a0, a0, a13, a12, .str "mask"], .tup [.int 1, a0, a0, a18, a12, .str "size"], .tup [.int 1, a0, a0, a2, a12, .str "cell"], .tup [.int 2, a5, a5, a13, .int 0, .str "picture"], .tup [.int 2, a0, a5, a13, .int 0, .str "picture"], .tup [.int 2, a0, a7, a13, .int 0, .str "mask"], .tup [.int 2, a0, a7, a2, .int 0, .str "size"]] ++ [.tup [.int 2, a0, a1, a18, .int 0, .str "size"], .tup [.int 1, a0, a0, a15, a12, .str "size"]] : List W) = [.tup [.int 0, a5, a0, a2, a10, .str "picture"], .tup [.int 0, a0, a0, a2, a10, .str "cell"], .tup [.int 1, a5, a0, a13, a12, .str "picture"], .tup [.int 1, a0, a0, a13, a12, .str "mask"], .tup [.int 1, a0, a0, a18, a12, .str "size"], .tup [.int 1, a0, a0, a2, a12, .str "cell"], .tup [.int 2, a5, a5, a13, .int 0, .str "picture"], .tup [.int 2, a0, a5, a13, .int 0, .str "picture"], .tup [.int 2, a0, a7, a13, .int 0, .str "mask"], .tup [.int 2, a0, a7, a2, .int 0, .str "size"], .tup [.int 2, a0, a1, a18, .int 0, .str "size"], .tup [.int 1, a0, a0, a15, a12, .str "size"]] from rfl] at s5
  rw [seq_nx s5]
  have k5 := last_get G4 (.lst [.tup [.int 0, a5, a0, a2, a10, .str "picture"], .tup [.int 0, a0, a0, a2, a10, .str "cell"], .tup [.int 1, a5, a0, a13, a12, .str "picture"], .tup [.int 1, a0, a0, a13, a12, .str "mask"], .tup [.int 1, a0, a0, a18, a12, .str "size"], .tup [.int 1, a0, a0, a2, a12, .str "cell"], .tup [.int 2, a5, a5, a13, .int 0, .str "picture"], .tup [.int 2, a0, a5, a13, .int 0, .str "picture"], .tup [.int 2, a0, a7, a13, .int 0, .str "mask"], .tup [.int 2, a0, a7, a2, .int 0, .str "size"], .tup [.int 2, a0, a1, a18, .int 0, .str "size"], .tup [.int 1, a0, a0, a15, a12, .str "size"]])
  clear s5 t5
  generalize h5 : G4 ++ [GO.lst [.tup [.int 0, a5, a0, a2, a10, .str "picture"], .tup [.int 0, a0, a0, a2, a10, .str "cell"], .tup [.int 1, a5, a0, a13, a12, .str "picture"], .tup [.int 1, a0, a0, a13, a12, .str "mask"], .tup [.int 1, a0, a0, a18, a12, .str "size"], .tup [.int 1, a0, a0, a2, a12, .str "cell"], .tup [.int 2, a5, a5, a13, .int 0, .str "picture"], .tup [.int 2, a0, a5, a13, .int 0, .str "picture"], .tup [.int 2, a0, a7, a13, .int 0, .str "mask"], .tup [.int 2, a0, a7, a2, .int 0, .str "size"], .tup [.int 2, a0, a1, a18, .int 0, .str "size"], .tup [.int 1, a0, a0, a15, a12, .str "size"]]] = G5 at *
  generalize G4.length = L5 at *
  have p5 : ∃ zs, G5 = G ++ zs := by
    obtain ⟨zs, rfl⟩ := p4
    exact ⟨_, by rw [← h5, List.append_assoc]⟩
  clear h5 k4 p4
  have s6 := add_step (τ := [some a0, some a1, some a2, some a3, some (.loc L5), some a5, none, some a7, none, none, some a10, some a11, some a12, some a13, none, some a15, none, none, some a18, b19]) (G := G5) (L := L5) (ms := (mCons (mTup (mCons (mC (.int 1)) (mCons (mVar 0) (mCons (mVar 0) (mCons (mVar 11) (mCons (mVar 12) (mCons (mC (.str "size")) mNil))))))) (mCons (mTup (mCons (mC (.int 2)) (mCons (mVar 0) (mCons (mVar 1) (mCons (mVar 15) (mCons (mC (.int 0)) (mCons (mC (.str "size")) mNil))))))) mNil))) (ws := [.tup [.int 1, a0, a0, a11, a12, .str "size"], .tup [.int 2, a0, a1, a15, .int 0, .str "size"]]) rfl k5 (by simp) (by simp)
  have t6 : List.set [some a0, some a1, some a2, some a3, some (.loc L5), some a5, none, some a7, none, none, some a10, some a11, some a12, some a13, none, some a15, none, none, some a18, b19] 4 (some (.loc G5.length)) = [some a0, some a1, some a2, some a3, some (.loc G5.length), some a5, none, some a7, none, none, some a10, some a11, some a12, some a13, none, some a15, none, none, some a18, b19] := rfl
  rw [t6] at s6
  rw [show ([.tup [.int 0, a5, a0, a2, a10, .str "picture"], .tup [.int 0, a0, a0, a2, a10, .str "cell"], .tup [.int 1, a5, a0, a13, a12, .str "picture"], .tup [.int 1, a0, a0, a13, a12, .str "mask"], .tup [.int 1, a0, a0, a18, a12, .str "size"], .tup [.int 1, a0, a0, a2, a12, .str "cell"], .tup [.int 2, a5, a5, a13, .int 0, .str "picture"], .tup [.int 2, a0, a5, a13, .int 0, .str "picture"], .tup [.int 2, a0, a7, a13, .int 0, .str "mask"], .tup [.int 2, a0, a7, a2, .int 0, .str "size"], .tup [.int 2, a0, a1, a18, .int 0, .str "size"], .tup [.int 1, a0, a0, a15, a12, .str "size"]] ++ [.tup [.int 1, a0, a0, a11, a12, .str "size"], .tup [.int 2, a0, a1, a15, .int 0, .str "size"]] : List W) = [.tup [.int 0, a5, a0, a2, a10, .str "picture"], .tup [.int 0, a0, a0, a2, a10, .str "cell"], .tup [.int 1, a5, a0, a13, a12, .str "picture"], .tup [.int 1, a0, a0, a13, a12, .str "mask"], .tup [.int 1, a0, a0, a18, a12, .str "size"], .tup [.int 1, a0, a0, a2, a12, .str "cell"], .tup [.int 2, a5, a5, a13, .int 0, .str "picture"], .tup [.int 2, a0, a5, a13, .int 0, .str "picture"], .tup [.int 2, a0, a7, a13, .int 0, .str "mask"], .tup [.int 2, a0, a7, a2, .int 0, .str "size"], .tup [.int 2, a0, a1, a18, .int 0, .str "size"], .tup [.int 1, a0, a0, a15, a12, .str "size"], .tup [.int 1, a0, a0, a11, a12, .str "size"], .tup [.int 2, a0, a1, a15, .int 0, .str "size"]] from rfl] at s6
  rw [seq_nx s6]
  have k6 := last_get G5 (.lst [.tup [.int 0, a5, a0, a2, a10, .str "picture"], .tup [.int 0, a0, a0, a2, a10, .str "cell"], .tup [.int 1, a5, a0, a13, a12, .str "picture"], .tup [.int 1, a0, a0, a13, a12, .str "mask"], .tup [.int 1, a0, a0, a18, a12, .str "size"], .tup [.int 1, a0, a0, a2, a12, .str "cell"], .tup [.int 2, a5, a5, a13, .int 0, .str "picture"], .tup [.int 2, a0, a5, a13, .int 0, .str "picture"], .tup [.int 2, a0, a7, a13, .int 0, .str "mask"], .tup [.int 2, a0, a7, a2, .int 0, .str "size"], .tup [.int 2, a0, a1, a18, .int 0, .str "size"], .tup [.int 1, a0, a0, a15, a12, .str "size"], .tup [.int 1, a0, a0, a11, a12, .str "size"], .tup [.int 2, a0, a1, a15, .int 0, .str "size"]])
  clear s6 t6
  generalize h6 : G5 ++ [GO.lst [.tup [.int 0, a5, a0, a2, a10, .str "picture"], .tup [.int 0, a0, a0, a2, a10, .str "cell"], .tup [.int 1, a5, a0, a13, a12, .str "picture"], .tup [.int 1, a0, a0, a13, a12, .str "mask"], .tup [.int 1, a0, a0, a18, a12, .str "size"], .tup [.int 1, a0, a0, a2, a12, .str "cell"], .tup [.int 2, a5, a5, a13, .int 0, .str "picture"], .tup [.int 2, a0, a5, a13, .int 0, .str "picture"], .tup [.int 2, a0, a7, a13, .int 0, .str "mask"], .tup [.int 2, a0, a7, a2, .int 0, .str "size"], .tup [.int 2, a0, a1, a18, .int 0, .str "size"], .tup [.int 1, a0, a0, a15, a12, .str "size"], .tup [.int 1, a0, a0, a11, a12, .str "size"], .tup [.int 2, a0, a1, a15, .int 0, .str "size"]]] = G6 at *
  generalize G5.length = L6 at *
  have p6 : ∃ zs, G6 = G ++ zs := by
    obtain ⟨zs, rfl⟩ := p5
    exact ⟨_, by rw [← h6, List.append_assoc]⟩
  clear h6 k5 p5
  have s7 := add_step (τ := [some a0, some a1, some a2, some a3, some (.loc L6), some a5, none, some a7, none, none, some a10, some a11, some a12, some a13, none, some a15, none, none, some a18, b19]) (G := G6) (L := L6) (ms := (mCons (mTup (mCons (mC (.int 2)) (mCons (mVar 0) (mCons (mVar 1) (mCons (mVar 11) (mCons (mC (.int 0)) (mCons (mC (.str "size")) mNil))))))) (mCons (mTup (mCons (mC (.int 2)) (mCons (mVar 5) (mCons (mVar 1) (mCons (mVar 2) (mCons (mC (.int 0)) (mCons (mC (.str "picture")) mNil))))))) mNil))) (ws := [.tup [.int 2, a0, a1, a11, .int 0, .str "size"], .tup [.int 2, a5, a1, a2, .int 0, .str "picture"]]) rfl k6 (by simp) (by simp)
  have t7 : List.set [some a0, some a1, some a2, some a3, some (.loc L6), some a5, none, some a7, none, none, some a10, some a11, some a12, some a13, none, some a15, none, none, some a18, b19] 4 (some (.loc G6.length)) = [some a0, some a1, some a2, some a3, some (.loc G6.length), some a5, none, some a7, none, none, some a10, some a11, some a12, some a13, none, some a15, none, none, some a18, b19] := rfl
  rw [t7] at s7
  rw [show ([.tup [.int 0, a5, a0, a2, a10, .str "picture"], .tup [.int 0, a0, a0, a2, a10, .str "cell"], .tup [.int 1, a5, a0, a13, a12, .str "picture"], .tup [.int 1, a0, a0, a13, a12, .str "mask"], .tup [.int 1, a0, a0, a18, a12, .str "size"], .tup [.int 1, a0, a0, a2, a12, .str "cell"], .tup [.int 2, a5, a5, a13, .int 0, .str "picture"], .tup [.int 2, a0, a5, a13, .int 0, .str "picture"], .tup [.int 2, a0, a7, a13, .int 0, .str "mask"], .tup [.int 2, a0, a7, a2, .int 0, .str "size"], .tup [.int 2, a0, a1, a18, .int 0, .str "size"], .tup [.int 1, a0, a0, a15, a12, .str "size"], .tup [.int 1, a0, a0, a11, a12, .str "size"], .tup [.int 2, a0, a1, a15, .int 0, .str "size"]] ++ [.tup [.int 2, a0, a1, a11, .int 0, .str "size"], .tup [.int 2, a5, a1, a2, .int 0, .str "picture"]] : List W) = [.tup [.int 0, a5, a0, a2, a10, .str "picture"], .tup [.int 0, a0, a0, a2, a10, .str "cell"], .tup [.int 1, a5, a0, a13, a12, .str "picture"], .tup [.int 1, a0, a0, a13, a12, .str "mask"], .tup [.int 1, a0, a0, a18, a12, .str "size"], .tup [.int 1, a0, a0, a2, a12, .str "cell"], .tup [.int 2, a5, a5, a13, .int 0, .str "picture"], .tup [.int 2, a0, a5, a13, .int 0, .str "picture"], .tup [.int 2, a0, a7, a13, .int 0, .str "mask"], .tup [.int 2, a0, a7, a2, .int 0, .str "size"], .tup [.int 2, a0, a1, a18, .int 0, .str "size"], .tup [.int 1, a0, a0, a15, a12, .str "size"], .tup [.int 1, a0, a0, a11, a12, .str "size"], .tup [.int 2, a0, a1, a15, .int 0, .str "size"], .tup [.int 2, a0, a1, a11, .int 0, .str "size"], .tup [.int 2, a5, a1, a2, .int 0, .str "picture"]] from rfl] at s7
  rw [seq_nx s7]
  have k7 := last_get G6 (.lst [.tup [.int 0, a5, a0, a2, a10, .str "picture"], .tup [.int 0, a0, a0, a2, a10, .str "cell"], .tup [.int 1, a5, a0, a13, a12, .str "picture"], .tup [.int 1, a0, a0, a13, a12, .str "mask"], .tup [.int 1, a0, a0, a18, a12, .str "size"], .tup [.int 1, a0, a0, a2, a12, .str "cell"], .tup [.int 2, a5, a5, a13, .int 0, .str "picture"], .tup [.int 2, a0, a5, a13, .int 0, .str "picture"], .tup [.int 2, a0, a7, a13, .int 0, .str "mask"], .tup [.int 2, a0, a7, a2, .int 0, .str "size"], .tup [.int 2, a0, a1, a18, .int 0, .str "size"], .tup [.int 1, a0, a0, a15, a12, .str "size"], .tup [.int 1, a0, a0, a11, a12, .str "size"], .tup [.int 2, a0, a1, a15, .int 0, .str "size"], .tup [.int 2, a0, a1, a11, .int 0, .str "size"], .tup [.int 2, a5, a1, a2, .int 0, .str "picture"]])
  clear s7 t7
  generalize h7 : G6 ++ [GO.lst [.tup [.int 0, a5, a0, a2, a10, .str "picture"], .tup [.int 0, a0, a0, a2, a10, .str "cell"], .tup [.int 1, a5, a0, a13, a12, .str "picture"], .tup [.int 1, a0, a0, a13, a12, .str "mask"], .tup [.int 1, a0, a0, a18, a12, .str "size"], .tup [.int 1, a0, a0, a2, a12, .str "cell"], .tup [.int 2, a5, a5, a13, .int 0, .str "picture"], .tup [.int 2, a0, a5, a13, .int 0, .str "picture"], .tup [.int 2, a0, a7, a13, .int 0, .str "mask"], .tup [.int 2, a0, a7, a2, .int 0, .str "size"], .tup [.int 2, a0, a1, a18, .int 0, .str "size"], .tup [.int 1, a0, a0, a15, a12, .str "size"], .tup [.int 1, a0, a0, a11, a12, .str "size"], .tup [.int 2, a0, a1, a15, .int 0, .str "size"], .tup [.int 2, a0, a1, a11, .int 0, .str "size"], .tup [.int 2, a5, a1, a2, .int 0, .str "picture"]]] = G7 at *
  generalize G6.length = L7 at *
  have p7 : ∃ zs, G7 = G ++ zs := by
    obtain ⟨zs, rfl⟩ := p6
    exact ⟨_, by rw [← h7, List.append_assoc]⟩
  clear h7 k6 p6
  obtain ⟨zs, rfl⟩ := p7
  exact ⟨L7, zs, rfl, k7⟩
end Lk08
set_option Elab.async false
set_option linter.all false
set_option maxRecDepth 100000
set_option maxHeartbeats 4000000
namespace Lk08
open PySem PySem.Spec PyProof.Rows L2 Sy
/-! the refusals -/
theorem badL_of {G : GH} {w : W} (h : okR G w) (hc : cellsB G w = false) : BadL G w := fun xs => by
  rw [cells_any (h.app xs)]
  unfold cellsB at hc ⊢
  rw [lstOf_app xs h.ok, hc]
theorem lists_eq {G : GH} {w : W} (h : okW G w) (hc : cellW w = false) (r : Nat) {a0 a1 a2 a5 a7 a11 a13 a15 a18 : Option W} :
    ∃ v xs, sSet 10 (mBin fIx (mLst (mCons (mC .non) (mCons (mBi fTuple (mConsT (mLst (mCons (mC (.int 1)) mNil)) mNilT)) (mCons (mLst (mCons (mVar 12) mNil)) (mCons (mLst (mCons (mC (.int 0)) (mCons (mVar 12) mNil))) (mCons (mC (.str "01")) (mCons (mC (.int 5)) (mCons mDict0 mNil)))))))) (mBin fMod (mBin fFdiv (mVar 3) (mC (.int 45))) (mC (.int 7))))
      [a0, a1, a2, some (.int r), none, a5, none, a7, none, none, none, a11, some w, a13, none, a15, none, none, a18, none] G = .nx [a0, a1, a2, some (.int r), none, a5, none, a7, none, none, some v, a11, some w, a13, none, a15, none, none, a18, none] (G ++ xs) ∧ BadL (G ++ xs) v := by
  obtain ⟨k, hk, hk7⟩ := mod_nat ((r : Int) / 45) (m := 7) (by decide)
  have hk' : (r : Int) / 45 % 7 = k := hk
  have ht : fTuple [.tmp [.int 1]] G = .ok (.val (.tup [.int 1])) G := rfl
  have l45 : Nat.log2 45 < 9000 := by decide
  have g0 : (G ++ [GO.lst [w], .lst [.int 0, w], .dK []])[G.length]? = some (.lst [w]) := by simp
  have g1 : (G ++ [GO.lst [w], .lst [.int 0, w], .dK []])[G.length + 1]? = some (.lst [.int 0, w]) := by simp
  have g2 : (G ++ [GO.lst [w], .lst [.int 0, w], .dK []])[G.length + 2]? = some (.dK []) := by simp
  have hw := okW_app [GO.lst [w], .lst [.int 0, w], .dK []] h
  have e3 : G ++ [GO.lst [w]] ++ [.lst [.int 0, w]] ++ [.dK []] = G ++ [GO.lst [w], .lst [.int 0, w], .dK []] := by simp
  have n1 : (G ++ [GO.lst [w]]).length = G.length + 1 := by simp
  have n2 : (G ++ [GO.lst [w]] ++ [GO.lst [.int 0, w]]).length = G.length + 2 := by simp
  have key : ∃ v, (∀ G', fIx (.tmp [.non, .tup [.int 1], .loc G.length, .loc (G.length + 1), .str "01", .int 5, .loc (G.length + 2)]) (.val (.int k)) G' = .ok (.val v) G') ∧ BadL (G ++ [GO.lst [w], .lst [.int 0, w], .dK []]) v := by
    generalize G ++ [GO.lst [w], .lst [.int 0, w], .dK []] = G3 at *
    have flat : ∀ v, okW G3 v → noFrl v = true → lstOf G3 v = none → BadL G3 v := fun v a b c => badL_of (okR_flat a b c) (by unfold cellsB; rw [c])
    have : k = 0 ∨ k = 1 ∨ k = 2 ∨ k = 3 ∨ k = 4 ∨ k = 5 ∨ k = 6 := by omega
    rcases this with rfl | rfl | rfl | rfl | rfl | rfl | rfl
    · exact ⟨_, fun _ => fIx_tmp (k := 0) rfl, flat _ rfl rfl rfl⟩
    · exact ⟨_, fun _ => fIx_tmp (k := 1) rfl, flat _ rfl rfl rfl⟩
    · refine ⟨_, fun _ => fIx_tmp (k := 2) rfl, badL_of ⟨by unfold okW; rw [tyOf_lst g0]; rfl, rfl, fun cs e => ?_⟩ (by unfold cellsB; rw [lstOf_loc g0]; simp [hc])⟩
      rw [lstOf_loc g0] at e
      cases e
      exact ⟨by simp, fun c hc => by rw [List.mem_singleton.mp hc]; exact hw⟩
    · refine ⟨_, fun _ => fIx_tmp (k := 3) rfl, badL_of ⟨by unfold okW; rw [tyOf_lst g1]; rfl, rfl, fun cs e => ?_⟩ (by unfold cellsB; rw [lstOf_loc g1]; simp [hc])⟩
      rw [lstOf_loc g1] at e
      cases e
      refine ⟨by simp, fun c hc => ?_⟩
      rcases List.mem_cons.mp hc with rfl | hc
      · rfl
      · rw [List.mem_singleton.mp hc]; exact hw
    · exact ⟨_, fun _ => fIx_tmp (k := 4) rfl, flat _ rfl rfl rfl⟩
    · exact ⟨_, fun _ => fIx_tmp (k := 5) rfl, flat _ rfl rfl rfl⟩
    · refine ⟨_, fun _ => fIx_tmp (k := 6) rfl, flat _ ?_ rfl ?_⟩
      · unfold okW tyOf
        simp [g2]
      · unfold lstOf
        dsimp only
        rw [g2]
  obtain ⟨v, hv, hb⟩ := key
  refine ⟨v, _, ?_, hb⟩
  have hv' : fIx (.tmp [.non, .tup [.int 1], .loc G.length, .loc (G.length + 1), .str "01", .int 5, .loc (G.length + 1 + 1)]) (.val (.int k)) (G ++ [GO.lst [w], .lst [.int 0, w], .dK []]) = .ok (.val v) (G ++ [GO.lst [w], .lst [.int 0, w], .dK []]) := hv _
  simp [fFdiv_int, fMod_int, l45, hk', ht, hv']
theorem goodM_mod {wide : Nat} {rows : List Nat} (gm : GoodM wide rows) : GoodM (wide % 24 + 1) (rows.map (· % 2)) :=
  ⟨by omega, by omega, by rw [List.length_map]; exact gm.h0, by rw [List.length_map]; exact gm.h1, fun r hr => by
    obtain ⟨z, _, rfl⟩ := List.mem_map.mp hr
    have : 2 ^ 1 ≤ 2 ^ (wide % 24 + 1) := Nat.pow_le_pow_right (by decide) (by omega)
    omega⟩
theorem goodM_of {wide : Nat} {rows us : List Nat} (gm : GoodM wide rows) (h0 : 0 < us.length) (h1 : us.length ≤ 24) (hu : ∀ u ∈ us, u ∈ rows ∨ u = 0) : GoodM wide us :=
  ⟨gm.w0, gm.w1, h0, h1, fun r hr => by
    rcases hu r hr with h | rfl
    · exact gm.row r h
    · exact Nat.pow_pos (by decide)⟩
theorem nW_app (a b : List Nat) : nW (a ++ b) = nW a ++ nW b := List.map_append
/-- three masks that do not fit -/
theorem odd_masks {G : GH} {wide : Nat} {rows : List Nat} (gm : GoodM wide rows) {a0 a1 a3 a5 a7 a13 : Option W} : ∃ tall low : List Nat, GoodM wide tall ∧ tall.length ≠ rows.length ∧ GoodM wide low ∧ low.length ≠ rows.length ∧ ∀ rest,
    sSeq (sSet 18 (mTup (mCons (mBin fAdd (mBin fMod (mBin fIx (mVar 2) (mC (.int 0))) (mC (.int 24))) (mC (.int 1))) (mCons (mBi fTuple (mConsT (mComp (miA (mBin fIx (mVar 2) (mC (.int 1)))) (gN 19) mYes (mBin fMod (mVar 19) (mC (.int 2))) [19]) mNilT)) mNil))))
    (sSeq (sSet 15 (mTup (mCons (mBin fIx (mVar 2) (mC (.int 0))) (mCons (mIf (mB (mBin fLt (mBi fLen (mConsT (mBin fIx (mVar 2) (mC (.int 1))) mNilT)) (mC (.int 24)))) (mBin fAdd (mBin fIx (mVar 2) (mC (.int 1))) (mTup (mCons (mC (.int 0)) mNil))) (mSl (mBin fIx (mVar 2) (mC (.int 1))) mNoP (mP (mC (.int 23))))) mNil))))
    (sSeq (sSet 11 (mTup (mCons (mBin fIx (mVar 2) (mC (.int 0))) (mCons (mIf (mB (mBin fGt (mBi fLen (mConsT (mBin fIx (mVar 2) (mC (.int 1))) mNilT)) (mC (.int 1)))) (mSl (mBin fIx (mVar 2) (mC (.int 1))) (mP (mC (.int 1))) mNoP) (mBin fMul (mBin fIx (mVar 2) (mC (.int 1))) (mC (.int 3)))) mNil)))) rest))
      [a0, a1, some (mk wide rows), a3, none, a5, none, a7, none, none, none, none, none, a13, none, none, none, none, none, none] G = rest [a0, a1, some (mk wide rows), a3, none, a5, none, a7, none, none, none, some (mk wide low), none, a13, none, some (mk wide tall), none, none, some (mk (wide % 24 + 1) (rows.map (· % 2))), none] G := by
  have gh0 := gm.h0
  have gh1 := gm.h1
  have lenR : (nW rows).length = rows.length := by simp
  have hc : compF [] (gN 19) mYes (mBin fMod (mVar 19) (mC (.int 2))) [a0, a1, some (mk wide rows), a3, none, a5, none, a7, none, none, none, none, none, a13, none, none, none, none, none, none] (nW rows) G = .ok (nW (rows.map (· % 2))) G := by
    have := compF_paired (src := []) (g := gN 19) (c := mYes) (e := mBin fMod (mVar 19) (mC (.int 2))) (τ := [a0, a1, some (mk wide rows), a3, none, a5, none, a7, none, none, none, none, none, a13, none, none, none, none, none, none]) (G := G) (ws := nW rows) (ys := rows.map (· % 2)) (fun z : Nat => W.int z) still_nil (by
      refine paired_of (by simp) fun i x y e1 e2 => ⟨[a0, a1, some (mk wide rows), a3, none, a5, none, a7, none, none, none, none, none, a13, none, none, none, none, none, some x], rfl, rfl, ?_⟩
      rw [List.getElem?_map] at e1 e2
      cases ez : rows[i]? with
      | none => rw [ez] at e1; cases e1
      | some z =>
        rw [ez] at e1 e2
        cases e1
        cases e2
        have := fMod_int (i := (z : Int)) (j := 2) (G := G) (by decide)
        rw [show (z : Int) % 2 = ((z % 2 : Nat) : Int) by omega] at this
        generalize ((z % 2 : Nat) : Int) = q at *
        simp [this])
    exact this
  have i0 : ∀ G, fIx (.val (mk wide rows)) (.val (.int 0)) G = .ok (.val (.int wide)) G := fun _ => rfl
  have i1 : ∀ G, fIx (.val (mk wide rows)) (.val (.int 1)) G = .ok (.val (.tup (nW rows))) G := fun _ => rfl
  have hm24 := fMod_int (i := (wide : Int)) (j := 24) (G := G) (by decide)
  rw [show (wide : Int) % 24 = ((wide % 24 : Nat) : Int) by omega] at hm24
  have hl2 : (nW rows).length ≤ 16777216 := by omega
  -- tall
  obtain ⟨tall, gt, nt, ht⟩ : ∃ tall, GoodM wide tall ∧ tall.length ≠ rows.length ∧ ∀ b18 : Option W, sSet 15 (mTup (mCons (mBin fIx (mVar 2) (mC (.int 0))) (mCons (mIf (mB (mBin fLt (mBi fLen (mConsT (mBin fIx (mVar 2) (mC (.int 1))) mNilT)) (mC (.int 24)))) (mBin fAdd (mBin fIx (mVar 2) (mC (.int 1))) (mTup (mCons (mC (.int 0)) mNil))) (mSl (mBin fIx (mVar 2) (mC (.int 1))) mNoP (mP (mC (.int 23))))) mNil)))
      [a0, a1, some (mk wide rows), a3, none, a5, none, a7, none, none, none, none, none, a13, none, none, none, none, b18, none] G = .nx [a0, a1, some (mk wide rows), a3, none, a5, none, a7, none, none, none, none, none, a13, none, some (mk wide tall), none, none, b18, none] G := by
    by_cases hh : rows.length < 24
    · refine ⟨rows ++ [0], goodM_of gm (by rw [List.length_append]; simp) (by rw [List.length_append]; simp; omega) (fun u hu => by
        rcases List.mem_append.mp hu with h | h
        · exact .inl h
        · exact .inr (List.mem_singleton.mp h)), by rw [List.length_append]; simp, fun b18 => ?_⟩
      have ha := fAdd_tup (nW rows) [.int 0] G (by rw [lenR]; simp; omega)
      have e : nW (rows ++ [0]) = nW rows ++ [.int 0] := nW_app _ _
      have hlt : (rows.length : Int) < 24 := by omega
      have em : mk wide (rows ++ [0]) = .tup [.int wide, .tup (nW rows ++ [.int 0])] := by unfold mk; rw [e]
      rw [em]
      generalize mk wide rows = M at *
      generalize nW rows = R0 at *
      simp [i0, i1, lenR, hlt, ha]
    · have hh24 : rows.length = 24 := by omega
      refine ⟨rows.take 23, goodM_of gm (by rw [List.length_take]; omega) (by rw [List.length_take]; omega) (fun u hu => .inl (List.mem_of_mem_take hu)), by rw [List.length_take]; omega, fun b18 => ?_⟩
      have hs := fSl_tup (nW rows) none (some ((23 : Nat) : Int)) G
      rw [cut_to] at hs
      have hs' : fSl (.val (.tup (nW rows))) none (some 23) G = .ok (.val (.tup ((nW rows).take 23))) G := hs
      have e : nW (rows.take 23) = (nW rows).take 23 := List.map_take
      have hlt : ¬ (rows.length : Int) < 24 := by omega
      have em : mk wide (rows.take 23) = .tup [.int wide, .tup ((nW rows).take 23)] := by unfold mk; rw [e]
      rw [em]
      generalize mk wide rows = M at *
      generalize nW rows = R0 at *
      simp [i0, i1, lenR, hlt, hs']
  obtain ⟨low, gl, nl, hlow⟩ : ∃ low, GoodM wide low ∧ low.length ≠ rows.length ∧ ∀ b15 b18 : Option W, sSet 11 (mTup (mCons (mBin fIx (mVar 2) (mC (.int 0))) (mCons (mIf (mB (mBin fGt (mBi fLen (mConsT (mBin fIx (mVar 2) (mC (.int 1))) mNilT)) (mC (.int 1)))) (mSl (mBin fIx (mVar 2) (mC (.int 1))) (mP (mC (.int 1))) mNoP) (mBin fMul (mBin fIx (mVar 2) (mC (.int 1))) (mC (.int 3)))) mNil)))
      [a0, a1, some (mk wide rows), a3, none, a5, none, a7, none, none, none, none, none, a13, none, b15, none, none, b18, none] G = .nx [a0, a1, some (mk wide rows), a3, none, a5, none, a7, none, none, none, some (mk wide low), none, a13, none, b15, none, none, b18, none] G := by
    by_cases hh : 1 < rows.length
    · refine ⟨rows.drop 1, goodM_of gm (by rw [List.length_drop]; omega) (by rw [List.length_drop]; omega) (fun u hu => .inl (List.mem_of_mem_drop hu)), by rw [List.length_drop]; omega, fun b15 b18 => ?_⟩
      have hs := fSl_tup (nW rows) (some ((1 : Nat) : Int)) none G
      rw [cut_from] at hs
      have hs' : fSl (.val (.tup (nW rows))) (some 1) none G = .ok (.val (.tup ((nW rows).drop 1))) G := hs
      have e : nW (rows.drop 1) = (nW rows).drop 1 := List.map_drop
      have hlt : (1 : Int) < rows.length := by omega
      have em : mk wide (rows.drop 1) = .tup [.int wide, .tup ((nW rows).drop 1)] := by unfold mk; rw [e]
      rw [em]
      generalize mk wide rows = M at *
      generalize nW rows = R0 at *
      generalize (R0.drop 1) = R1 at *
      simp [i0, i1, lenR, hlt, hs', hh]
    · have hh1 : rows.length = 1 := by omega
      obtain ⟨z, rfl⟩ : ∃ z, rows = [z] := List.length_eq_one_iff.mp hh1
      refine ⟨[z, z, z], goodM_of gm (by simp) (by simp) (fun u hu => .inl (by
        have : u = z := by simpa using hu
        rw [this]; simp)), by simp, fun b15 b18 => ?_⟩
      have hmul : fMul (.val (.tup (nW [z]))) (.val (.int 3)) G = .ok (.val (.tup (nW [z, z, z]))) G := rfl
      have em : mk wide [z, z, z] = .tup [.int wide, .tup (nW [z, z, z])] := rfl
      rw [em]
      generalize mk wide [z] = M at *
      generalize nW [z, z, z] = R1 at *
      generalize nW [z] = R0 at *
      simp [i0, i1, lenR, hmul]
  refine ⟨tall, low, gt, nt, gl, nl, fun rest => ?_⟩
  rw [seq_nx (τ1 := [a0, a1, some (mk wide rows), a3, none, a5, none, a7, none, none, none, none, none, a13, none, none, none, none, some (mk (wide % 24 + 1) (rows.map (· % 2))), none]) (G1 := G) (by
    have em : mk (wide % 24 + 1) (rows.map (· % 2)) = .tup [.int (((wide % 24 : Nat) : Int) + 1), .tup (nW (rows.map (· % 2)))] := rfl
    rw [em]
    have it : iterA (.val (.tup (nW rows))) G = .ok (nW rows, []) G := rfl
    have ft : ∀ L, fTuple [.tmp L] G = .ok (.val (.tup L)) G := fun _ => rfl
    generalize nW (rows.map (· % 2)) = R2 at *
    generalize mk wide rows = M at *
    generalize nW rows = R0 at *
    generalize ((wide % 24 : Nat) : Int) = q at *
    simp [i0, i1, hm24, mComp_at, miA_at, it, wipeS, hl2, hc, ft])]
  rw [seq_nx (ht _), seq_nx (hlow _ _)]
end Lk08
set_option Elab.async false
set_option linter.all false
set_option maxRecDepth 100000
set_option maxHeartbeats 4000000
namespace Lk08
open PySem PySem.Spec PyProof.Rows L2 Sy
theorem ask_ok {G : GH} {a : Nat} {b c d e : W} {s s2 : Str} (ht : Tells G a b c d e s2) (h1 : ∀ G', fAdd (.val (.str "value ")) (.val (.str s)) G' = .ok (.val (.str s2)) G') (h2 : s2.cps.all (· < 0x110000) = true) : AskOk G (.tup [.int a, b, c, d, e, .str s]) :=
  ⟨a, b, c, d, e, s, s2, rfl, ht, h1, h2⟩
theorem v_pic (G' : GH) : fAdd (.val (.str "value ")) (.val (.str "picture")) G' = .ok (.val (.str "value picture")) G' := rfl
theorem v_cell (G' : GH) : fAdd (.val (.str "value ")) (.val (.str "cell")) G' = .ok (.val (.str "value cell")) G' := rfl
theorem v_mask (G' : GH) : fAdd (.val (.str "value ")) (.val (.str "mask")) G' = .ok (.val (.str "value mask")) G' := rfl
theorem v_size (G' : GH) : fAdd (.val (.str "value ")) (.val (.str "size")) G' = .ok (.val (.str "value size")) G' := rfl
theorem o_pic : ("value picture" : Str).cps.all (· < 0x110000) = true := by decide +kernel
theorem o_cell : ("value cell" : Str).cps.all (· < 0x110000) = true := by decide +kernel
theorem o_mask : ("value mask" : Str).cps.all (· < 0x110000) = true := by decide +kernel
theorem o_size : ("value size" : Str).cps.all (· < 0x110000) = true := by decide +kernel
theorem refused_eq {G : GH} {n m : Nat} {p q : List (List Int)} {wide : Nat} {rows : List Nat} (hp : PicAt G n p) (g : Good p wide) (hq : PicAt G m q) (g2 : Good q wide) (hl : q.length = p.length) (gm : GoodM wide rows) (hr : rows.length = p.length) (r : Nat) :
    ∃ G', m_law_refused [.loc n, .loc m, mk wide rows, .int r] G = .ok (.bl true) G' := by
  have l7 : Nat.log2 7 < 9000 := by decide
  have l5 : Nat.log2 5 < 9000 := by decide
  obtain ⟨bad, x1, hw1, hb1⟩ : ∃ w xs, m_law_wrong_picture [.int r, .loc n] G = .ok w (G ++ xs) ∧ BadP (G ++ xs) w := by
    obtain ⟨ms, h⟩ := hp
    exact wrong_pic h g r
  have hp1 := hp.keep (Keeps.app G x1)
  have hq1 := hq.keep (Keeps.app G x1)
  have pre : ∃ G', b_law_refused [some (.loc n), some (.loc m), some (mk wide rows), some (.int r), none, none, none, none, none, none, none, none, none, none, none, none, none, none, none, none] G = .rt (.bl true) G' := by
    unfold b_law_refused
    rw [seq_nx (τ1 := [some (.loc n), some (.loc m), some (mk wide rows), some (.int r), none, some bad, none, none, none, none, none, none, none, none, none, none, none, none, none, none]) (G1 := G ++ x1) (by simp [hw1])]
    generalize G ++ x1 = G1 at *
    obtain ⟨nom, x2, hw2, hb2⟩ := wrong_eq gm (r / 7) G1
    have d7 := fFdiv_int (i := (r : Int)) (j := 7) (G := G1) (by decide) l7
    rw [show (r : Int) / 7 = ((r / 7 : Nat) : Int) by omega] at d7
    rw [seq_nx (τ1 := [some (.loc n), some (.loc m), some (mk wide rows), some (.int r), none, some bad, none, none, none, none, none, none, none, some nom, none, none, none, none, none, none]) (G1 := G1 ++ x2) (by
      generalize ((r / 7 : Nat) : Int) = z at *
      generalize mk wide rows = M at *
      simp [d7, hw2])]
    have hp2 := hp1.keep (Keeps.app G1 x2)
    have hq2 := hq1.keep (Keeps.app G1 x2)
    have hb1' := hb1.mono x2
    generalize G1 ++ x2 = G2 at *
    obtain ⟨F, x3, fp, fw, hf, gf, nef, hfar⟩ := far_eq (b0 := some (.loc n)) (b2 := some (mk wide rows)) (b3 := some (.int r)) (b5 := some bad) (b13 := some nom) hq2 g2
    refine Eq.mp (congrArg (fun z => ∃ G', z = RS.rt (.bl true) G') (hfar _).symm) ?_
    have hp3 := hp2.keep (Keeps.app G2 x3)
    have hq3 := hq2.keep (Keeps.app G2 x3)
    have hb3 := hb1'.mono x3
    have hm3 := hb2.mono x3
    generalize G2 ++ x3 = G3 at *
    obtain ⟨tall, low, gt, nt, gl, nl, hodd⟩ := odd_masks (G := G3) (a0 := some (.loc n)) (a1 := some (.loc m)) (a3 := some (.int r)) (a5 := some bad) (a7 := some (.loc F)) (a13 := some nom) gm
    refine Eq.mp (congrArg (fun z => ∃ G', z = RS.rt (.bl true) G') (hodd _).symm) ?_
    obtain ⟨noc, hw4, ho4, nf4, hc4, _⟩ := wrong_cell_eq (r / 5) G3
    have d5 := fFdiv_int (i := (r : Int)) (j := 5) (G := G3) (by decide) l5
    rw [show (r : Int) / 5 = ((r / 5 : Nat) : Int) by omega] at d5
    generalize hmt : mk wide tall = MT at *
    generalize hml : mk wide low = ML at *
    generalize hmw : mk (wide % 24 + 1) (rows.map (· % 2)) = MW at *
    rw [seq_nx (τ1 := [some (.loc n), some (.loc m), some (mk wide rows), some (.int r), none, some bad, none, some (.loc F), none, none, none, some ML, some noc, some nom, none, some MT, none, none, some MW, none]) (G1 := G3 ++ [.lst [.int 0]]) (by
      generalize ((r / 5 : Nat) : Int) = z at *
      generalize mk wide rows = M at *
      simp [d5, hw4])]
    have hp4 := hp3.keep (Keeps.app G3 [.lst [.int 0]])
    have hq4 := hq3.keep (Keeps.app G3 [.lst [.int 0]])
    have hf4 := hf.keep (Keeps.app G3 [.lst [.int 0]])
    have hb4 := hb3.mono [.lst [.int 0]]
    have hm4 := hm3.mono [.lst [.int 0]]
    generalize G3 ++ [GO.lst [.int 0]] = G4 at *
    obtain ⟨ls, x5, hls, hbl⟩ := lists_eq (a0 := some (.loc n)) (a1 := some (.loc m)) (a2 := some (mk wide rows)) (a5 := some bad) (a7 := some (.loc F)) (a11 := some ML) (a13 := some nom) (a15 := some MT) (a18 := some MW) ho4 hc4 r
    rw [seq_nx hls]
    have hp5 := hp4.keep (Keeps.app G4 x5)
    have hq5 := hq4.keep (Keeps.app G4 x5)
    have hf5 := hf4.keep (Keeps.app G4 x5)
    have hb5 := hb4.mono x5
    have hm5 := hm4.mono x5
    have ho5 := okW_app x5 ho4
    generalize G4 ++ x5 = G5 at *
    obtain ⟨L, zs, hbuild, hL⟩ := asked_build (G := G5) (a0 := .loc n) (a1 := .loc m) (a2 := mk wide rows) (a3 := .int r) (a5 := bad) (a7 := .loc F) (a10 := ls) (a11 := ML) (a12 := noc) (a13 := nom) (a15 := MT) (a18 := MW) (b19 := none)
      (sSeq (sFor (miA (mVar 4)) askedG askedB) (sRet (mC (.bl true))))
    refine Eq.mp (congrArg (fun z => ∃ G', z = RS.rt (.bl true) G') hbuild.symm) ?_
    have hp6 := hp5.keep (Keeps.app G5 zs)
    have hq6 := hq5.keep (Keeps.app G5 zs)
    have hf6 := hf5.keep (Keeps.app G5 zs)
    have hb6 := hb5.mono zs
    have hm6 := hm5.mono zs
    have ho6 := okW_app zs ho5
    have hbl6 := hbl.mono zs
    generalize G5 ++ zs = G6 at *
    have nW : (wide % 24 + 1) ≠ wide := by
      have := gm.w1
      by_cases h : wide = 24
      · subst h; decide
      · rw [Nat.mod_eq_of_lt (by omega)]; omega
    have gw := goodM_mod gm
    have hask : ∀ w ∈ [W.tup [.int 0, bad, .loc n, mk wide rows, ls, .str "picture"], .tup [.int 0, .loc n, .loc n, mk wide rows, ls, .str "cell"],
        .tup [.int 1, bad, .loc n, nom, noc, .str "picture"], .tup [.int 1, .loc n, .loc n, nom, noc, .str "mask"],
        .tup [.int 1, .loc n, .loc n, MW, noc, .str "size"], .tup [.int 1, .loc n, .loc n, mk wide rows, noc, .str "cell"],
        .tup [.int 2, bad, bad, nom, .int 0, .str "picture"], .tup [.int 2, .loc n, bad, nom, .int 0, .str "picture"],
        .tup [.int 2, .loc n, .loc F, nom, .int 0, .str "mask"], .tup [.int 2, .loc n, .loc F, mk wide rows, .int 0, .str "size"],
        .tup [.int 2, .loc n, .loc m, MW, .int 0, .str "size"], .tup [.int 1, .loc n, .loc n, MT, noc, .str "size"],
        .tup [.int 1, .loc n, .loc n, ML, noc, .str "size"], .tup [.int 2, .loc n, .loc m, MT, .int 0, .str "size"],
        .tup [.int 2, .loc n, .loc m, ML, .int 0, .str "size"], .tup [.int 2, bad, .loc m, mk wide rows, .int 0, .str "picture"]], AskOk G6 w := by
      intro w hw
      simp only [List.mem_cons, List.not_mem_nil, or_false] at hw
      rcases hw with rfl | rfl | rfl | rfl | rfl | rfl | rfl | rfl | rfl | rfl | rfl | rfl | rfl | rfl | rfl | rfl
      · exact ask_ok (a := 0) (t0_pic hb6) v_pic o_pic
      · exact ask_ok (a := 0) (t0_cell hp6 g hbl6) v_cell o_cell
      · exact ask_ok (a := 1) (t1_pic hb6) v_pic o_pic
      · exact ask_ok (a := 1) (t1_mask hp6 g hm6) v_mask o_mask
      · rw [← hmw]; exact ask_ok (a := 1) (t1_size hp6 g gw (.inl nW)) v_size o_size
      · exact ask_ok (a := 1) (t1_cell hp6 g gm hr ho6 hc4) v_cell o_cell
      · exact ask_ok (a := 2) (t2_pic hb6) v_pic o_pic
      · exact ask_ok (a := 2) (t2_pic2 hp6 g hb6) v_pic o_pic
      · exact ask_ok (a := 2) (t2_mask hp6 g hf6 gf hm6) v_mask o_mask
      · exact ask_ok (a := 2) (t2_unlike hp6 g hf6 gf gm (by rw [← hl]; exact nef)) v_size o_size
      · rw [← hmw]; exact ask_ok (a := 2) (t2_size hp6 g hq6 g2 hl gw (.inl nW)) v_size o_size
      · rw [← hmt]; exact ask_ok (a := 1) (t1_size hp6 g gt (.inr (by rw [← hr]; exact nt))) v_size o_size
      · rw [← hml]; exact ask_ok (a := 1) (t1_size hp6 g gl (.inr (by rw [← hr]; exact nl))) v_size o_size
      · rw [← hmt]; exact ask_ok (a := 2) (t2_size hp6 g hq6 g2 hl gt (.inr (by rw [← hr]; exact nt))) v_size o_size
      · rw [← hml]; exact ask_ok (a := 2) (t2_size hp6 g hq6 g2 hl gl (.inr (by rw [← hr]; exact nl))) v_size o_size
      · exact ask_ok (a := 2) (t2_pic hb6) v_pic o_pic
    obtain ⟨τe, ys, hloop⟩ := asked_loop (b0 := some (.loc n)) (b1 := some (.loc m)) (b2 := some (mk wide rows)) (b3 := some (.int r)) (b5 := some bad) (b7 := some (.loc F)) (b10 := some ls) (b11 := some ML) (b12 := some noc) (b13 := some nom) (b15 := some MT) (b18 := some MW) (b19 := none) hL hask
    refine ⟨G6 ++ ys, ?_⟩
    rw [seq_nx hloop]
    simp
  obtain ⟨G', h⟩ := pre
  exact ⟨G', mDef_ok _ h⟩
end Lk08
set_option Elab.async false
set_option linter.all false
set_option maxRecDepth 100000
set_option maxHeartbeats 4000000
namespace Lk08
open PySem PySem.Spec PyProof.Rows L2 Sy
open N5 N6 N7
/-! pure laws: masks -/
def lackR (wide : Nat) (rows : List Nat) : List Nat := List.zipWith (opN 2) rows (fullR wide rows.length)
theorem lackR_len (wide : Nat) (rows : List Nat) : (lackR wide rows).length = rows.length := by
  unfold lackR fullR
  simp
theorem lackR_get {wide : Nat} {rows : List Nat} {y : Nat} (hy : y < rows.length) : (lackR wide rows)[y]? = some (rows.getD y 0 ^^^ (2 ^ wide - 1)) := by
  unfold lackR fullR
  rw [List.getElem?_zipWith, List.getElem?_eq_getElem hy, List.getElem?_replicate, if_pos hy]
  simp only [List.getD_eq_getElem?_getD, List.getElem?_eq_getElem hy, Option.getD_some]
  rfl
theorem lackR_getD {wide : Nat} {rows : List Nat} {y : Nat} (hy : y < rows.length) : (lackR wide rows).getD y 0 = rows.getD y 0 ^^^ (2 ^ wide - 1) := by
  rw [List.getD_eq_getElem?_getD, lackR_get hy]
  rfl
theorem full_bit (wide x : Nat) : (2 ^ wide - 1).testBit x = decide (x < wide) := Nat.testBit_two_pow_sub_one ..
theorem lack_bit {wide : Nat} {rows : List Nat} {x y : Nat} (hx : x < wide) (hy : y < rows.length) : ((lackR wide rows).getD y 0).testBit x = !(rows.getD y 0).testBit x := by
  rw [lackR_getD hy, Nat.testBit_xor, full_bit, decide_eq_true hx, Bool.xor_true]
theorem lackR_good {wide : Nat} {rows : List Nat} (g : GoodM wide rows) : GoodM wide (lackR wide rows) :=
  zipWith_good (op := opN 2) (fun a b ha hb => opN_lt ha hb) g (full_good g.w0 g.w1 g.h0 g.h1) (by simp)
theorem zip_get {op : Nat → Nat → Nat} {a b : List Nat} {y : Nat} (ha : y < a.length) (hb : y < b.length) : (List.zipWith op a b)[y]? = some (op (a.getD y 0) (b.getD y 0)) := by
  rw [List.getElem?_zipWith, List.getElem?_eq_getElem ha, List.getElem?_eq_getElem hb]
  simp only [List.getD_eq_getElem?_getD, List.getElem?_eq_getElem ha, List.getElem?_eq_getElem hb, Option.getD_some]
theorem zip_getD {op : Nat → Nat → Nat} {a b : List Nat} {y : Nat} (ha : y < a.length) (hb : y < b.length) : (List.zipWith op a b).getD y 0 = op (a.getD y 0) (b.getD y 0) := by
  rw [List.getD_eq_getElem?_getD, zip_get ha hb]
  rfl
theorem list_ext {a b : List Nat} (hl : a.length = b.length) (h : ∀ y, y < a.length → a.getD y 0 = b.getD y 0) : a = b := by
  apply List.ext_getElem hl
  intro i h1 h2
  have := h i h1
  simpa only [List.getD_eq_getElem?_getD, List.getElem?_eq_getElem h1, List.getElem?_eq_getElem h2, Option.getD_some] using this
theorem zl {op : Nat → Nat → Nat} {a b : List Nat} (h : b.length = a.length) : (List.zipWith op a b).length = a.length := by simp [h]
theorem op0 (a b : Nat) : opN 0 a b = a &&& b := rfl
theorem op1 (a b : Nat) : opN 1 a b = a ||| b := rfl
theorem morgan1 {wide : Nat} {a b : List Nat} (ga : GoodM wide a) (gb : GoodM wide b) (hl : b.length = a.length) : lackR wide (List.zipWith (opN 1) a b) = List.zipWith (opN 0) (lackR wide a) (lackR wide b) := by
  have l1 := zl (op := opN 1) hl
  have l2 : (lackR wide b).length = (lackR wide a).length := by rw [lackR_len, lackR_len, hl]
  have l3 := zl (op := opN 0) l2
  refine list_ext (by rw [lackR_len, l1, l3, lackR_len]) fun y hy => ?_
  rw [lackR_len, l1] at hy
  rw [lackR_getD (by omega), zip_getD hy (by omega), zip_getD (by rw [lackR_len]; omega) (by rw [lackR_len]; omega), lackR_getD hy, lackR_getD (by omega)]
  apply Nat.eq_of_testBit_eq
  intro x
  have la := Nat.testBit_lt_two_pow (getD_lt ga.row y)
  rw [op0, op1]
  rw [Nat.testBit_xor, Nat.testBit_or, Nat.testBit_and, Nat.testBit_xor, Nat.testBit_xor, full_bit]
  by_cases hx : x < wide
  · rw [decide_eq_true hx]
    cases (a.getD y 0).testBit x <;> cases (b.getD y 0).testBit x <;> rfl
  · have e1 : (a.getD y 0).testBit x = false := Nat.testBit_lt_two_pow (Nat.lt_of_lt_of_le (getD_lt ga.row y) (Nat.pow_le_pow_right (by decide) (by omega)))
    have e2 : (b.getD y 0).testBit x = false := Nat.testBit_lt_two_pow (Nat.lt_of_lt_of_le (getD_lt gb.row y) (Nat.pow_le_pow_right (by decide) (by omega)))
    rw [e1, e2, decide_eq_false hx]
    rfl
theorem morgan0 {wide : Nat} {a b : List Nat} (ga : GoodM wide a) (gb : GoodM wide b) (hl : b.length = a.length) : lackR wide (List.zipWith (opN 0) a b) = List.zipWith (opN 1) (lackR wide a) (lackR wide b) := by
  have l1 := zl (op := opN 0) hl
  have l2 : (lackR wide b).length = (lackR wide a).length := by rw [lackR_len, lackR_len, hl]
  have l3 := zl (op := opN 1) l2
  refine list_ext (by rw [lackR_len, l1, l3, lackR_len]) fun y hy => ?_
  rw [lackR_len, l1] at hy
  rw [lackR_getD (by omega), zip_getD hy (by omega), zip_getD (by rw [lackR_len]; omega) (by rw [lackR_len]; omega), lackR_getD hy, lackR_getD (by omega)]
  apply Nat.eq_of_testBit_eq
  intro x
  rw [op0, op1]
  rw [Nat.testBit_xor, Nat.testBit_and, Nat.testBit_or, Nat.testBit_xor, Nat.testBit_xor, full_bit]
  by_cases hx : x < wide
  · rw [decide_eq_true hx]
    cases (a.getD y 0).testBit x <;> cases (b.getD y 0).testBit x <;> rfl
  · have e1 : (a.getD y 0).testBit x = false := Nat.testBit_lt_two_pow (Nat.lt_of_lt_of_le (getD_lt ga.row y) (Nat.pow_le_pow_right (by decide) (by omega)))
    have e2 : (b.getD y 0).testBit x = false := Nat.testBit_lt_two_pow (Nat.lt_of_lt_of_le (getD_lt gb.row y) (Nat.pow_le_pow_right (by decide) (by omega)))
    rw [e1, e2, decide_eq_false hx]
    rfl
theorem maskC_get {p : List (List Int)} {cs : List Int} {y : Nat} (hy : y < p.length) : (maskC p cs)[y]? = some (sumF (inC (p.getD y []) cs) (p.getD y []).length) := by
  unfold maskC
  rw [List.getElem?_map, List.getElem?_eq_getElem hy]
  simp only [List.getD_eq_getElem?_getD, List.getElem?_eq_getElem hy, Option.getD_some, Option.map_some]
theorem maskC_getD {p : List (List Int)} {cs : List Int} {y : Nat} (hy : y < p.length) : (maskC p cs).getD y 0 = sumF (inC (p.getD y []) cs) (p.getD y []).length := by
  rw [List.getD_eq_getElem?_getD, maskC_get hy]
  rfl
def otherC (cs : List Int) : List Int := ((List.range 16).map fun i : Nat => (i : Int)).filter fun c => !decide (c ∈ cs)
theorem mem_otherC {cs : List Int} {c : Int} (h0 : 0 ≤ c) (h1 : c ≤ 15) : (c ∈ otherC cs) ↔ ¬ c ∈ cs := by
  unfold otherC
  rw [List.mem_filter]
  constructor
  · rintro ⟨_, h⟩
    simpa using h
  · intro h
    refine ⟨List.mem_map.mpr ⟨c.toNat, List.mem_range.mpr (by omega), by omega⟩, by simpa using h⟩
theorem mask_other {p : List (List Int)} {wide : Nat} (g : Good p wide) (cs : List Int) : maskC p (otherC cs) = lackR wide (maskC p cs) := by
  refine list_ext (by rw [lackR_len, maskC_len, maskC_len]) fun y hy => ?_
  rw [maskC_len] at hy
  rw [maskC_getD hy, lackR_getD (by rw [maskC_len]; exact hy), maskC_getD hy, getD_row g hy]
  apply Nat.eq_of_testBit_eq
  intro x
  rw [sumF_bit, Nat.testBit_xor, sumF_bit, full_bit]
  by_cases hx : x < wide
  · have hg := good_get g hx hy
    rw [decide_eq_true hx, Bool.true_and, Bool.true_and, Bool.xor_true]
    unfold inC
    by_cases hc : (p.getD y []).getD x 0 ∈ cs
    · rw [decide_eq_true hc, decide_eq_false fun z => (mem_otherC hg.1 hg.2).mp z hc]; rfl
    · rw [decide_eq_false hc, decide_eq_true ((mem_otherC hg.1 hg.2).mpr hc)]; rfl
  · rw [decide_eq_false hx]
    rfl
theorem fullR_getD {wide high y : Nat} (hy : y < high) : (fullR wide high).getD y 0 = 2 ^ wide - 1 := by
  unfold fullR
  rw [List.getD_eq_getElem?_getD, List.getElem?_replicate, if_pos hy]
  rfl
theorem places_mask {p : List (List Int)} {wide : Nat} (g : Good p wide) (cs : List Int) : rowsOf ((placesP wide (fullR wide p.length) p.length).filter fun z => decide (cf p z.1 z.2 ∈ cs)) p.length = maskC p cs := by
  refine list_ext (by rw [maskC_len]; unfold rowsOf; simp) fun y hy => ?_
  have hy' : y < p.length := by
    unfold rowsOf at hy
    simpa using hy
  rw [List.getD_eq_getElem?_getD, rowsOf_get hy', Option.getD_some, sumAt_filter, if_pos hy', maskC_getD hy', getD_row g hy', fullR_getD hy']
  apply Nat.eq_of_testBit_eq
  intro x
  rw [sumF_bit, sumF_bit, full_bit]
  by_cases hx : x < wide
  · rw [decide_eq_true hx, Bool.true_and, Bool.true_and, Bool.true_and]
    rfl
  · rw [decide_eq_false hx]
    rfl
/-! pure laws: pictures -/
theorem cf_chosen {p q : List (List Int)} {rows : List Nat} {wide x y : Nat} (hx : x < wide) (hy : y < p.length) : cf (chosenP p q rows wide) x y = if (rows.getD y 0).testBit x then cf q x y else cf p x y := by
  unfold chosenP
  exact cf_tab hx hy
theorem chosen_by {p q : List (List Int)} {rows : List Nat} {wide : Nat} (hr : rows.length = p.length) : chosenP p q rows wide = byP p q (placesP wide rows rows.length) wide := by
  unfold chosenP byP
  refine tab_congr fun x y hx hy => ?_
  by_cases h : (rows.getD y 0).testBit x = true
  · rw [if_pos h, if_pos (mem_places.mpr ⟨by rw [hr]; exact hy, hx, h⟩)]
  · rw [if_neg h, if_neg fun z => h (mem_places.mp z).2.2]
theorem chosen_same {p q : List (List Int)} {rows : List Nat} {wide : Nat} (g : Good p wide) (hl : q.length = p.length) : chosenP (chosenP p q rows wide) p rows wide = p := by
  have e := tab_cf g.row
  have : chosenP (chosenP p q rows wide) p rows wide = tab wide p.length (cf p) := by
    unfold chosenP
    rw [tab_len]
    refine tab_congr fun x y hx hy => ?_
    by_cases h : (rows.getD y 0).testBit x = true
    · rw [if_pos h]
    · rw [if_neg h, cf_tab hx hy, if_neg h]
  rw [this]
  exact e.symm
theorem chosen_back {p q : List (List Int)} {rows : List Nat} {wide : Nat} (g : Good p wide) (hl : q.length = p.length) (hr : rows.length = p.length) : chosenP q (chosenP p q rows wide) (lackR wide rows) wide = byP q p (placesP wide (lackR wide rows) (lackR wide rows).length) wide := by
  rw [← chosen_by (by rw [lackR_len, hr, hl])]
  unfold chosenP
  refine tab_congr fun x y hx hy => ?_
  rw [lack_bit hx (by omega)]
  by_cases h : (rows.getD y 0).testBit x = true
  · rw [h]; rfl
  · have h' : (rows.getD y 0).testBit x = false := by simpa using h
    rw [h', Bool.not_false, if_pos rfl, if_pos rfl, cf_tab hx (by omega), h']
    rfl
theorem places_in {wide : Nat} {rows : List Nat} {z : Nat × Nat} (h : z ∈ placesP wide rows rows.length) : z.1 < wide ∧ z.2 < rows.length := by
  have := mem_places.mp h
  exact ⟨this.2.1, this.1⟩
end Lk08
set_option Elab.async false
set_option linter.all false
set_option maxRecDepth 100000
set_option maxHeartbeats 4000000
namespace Lk08
open PySem PySem.Spec PyProof.Rows L2 Sy
open N5 N6 N7
/-! the law -/
structure Env (G : GH) (n m s H c1 c2 c3 : Nat) (pic oth : List (List Int)) (cs : List Int) : Prop where
  p : PicAt G n pic
  q : PicAt G m oth
  s : G[s]? = some (.lst (iW cs))
  h : G[H]? = some (.lst [.loc c1, .loc c2, .loc c3])
  hp : PicAt G c1 pic
  hq : PicAt G c2 oth
  hs : G[c3]? = some (.lst (iW cs))
theorem Env.keep {G G' : GH} {n m s H c1 c2 c3 : Nat} {pic oth : List (List Int)} {cs : List Int} (e : Env G n m s H c1 c2 c3 pic oth cs) (k : Keeps G G') : Env G' n m s H c1 c2 c3 pic oth cs :=
  ⟨e.p.keep k, e.q.keep k, k.get e.s, k.get e.h, e.hp.keep k, e.hq.keep k, k.get e.hs⟩
theorem Env.h0 {G : GH} {n m s H c1 c2 c3 : Nat} {pic oth : List (List Int)} {cs : List Int} (e : Env G n m s H c1 c2 c3 pic oth cs) : fIx (.val (.loc H)) (.val (.int 0)) G = .ok (.val (.loc c1)) G := fIx_loc (k := 0) e.h rfl
theorem Env.h1 {G : GH} {n m s H c1 c2 c3 : Nat} {pic oth : List (List Int)} {cs : List Int} (e : Env G n m s H c1 c2 c3 pic oth cs) : fIx (.val (.loc H)) (.val (.int 1)) G = .ok (.val (.loc c2)) G := fIx_loc (k := 1) e.h rfl
theorem Env.h2 {G : GH} {n m s H c1 c2 c3 : Nat} {pic oth : List (List Int)} {cs : List Int} (e : Env G n m s H c1 c2 c3 pic oth cs) : fIx (.val (.loc H)) (.val (.int 2)) G = .ok (.val (.loc c3)) G := fIx_loc (k := 2) e.h rfl
theorem mul_seven {c : Int} (h0 : 0 ≤ c) (h1 : c ≤ 15) (G : GH) : fMul (.val (.int c)) (.val (.int 7)) G = .ok (.val (.int (c * 7))) G :=
  fMul_int (mulOk_of (a := 4) (b := 3) (bits_small h0 (by omega)) (bits_small (by decide) (by decide)) (by decide))
def turnC (r : Int) (c : Int) : Int := (c * 7 + r / 3) % 16
def othP (r : Int) (pic : List (List Int)) : List (List Int) := pic.reverse.map fun row => row.map (turnC r)
theorem othP_good {pic : List (List Int)} {wide : Nat} (g : Good pic wide) (r : Int) : Good (othP r pic) wide := by
  unfold othP
  refine ⟨by simp; exact g.h0, by simp; exact g.h1, g.w0, g.w1, fun z hz => ?_, fun z hz c hc => ?_⟩
  · obtain ⟨y, hy, rfl⟩ := List.mem_map.mp hz
    rw [List.length_map]
    exact g.row y (List.mem_reverse.mp hy)
  · obtain ⟨y, hy, rfl⟩ := List.mem_map.mp hz
    obtain ⟨x, hx, rfl⟩ := List.mem_map.mp hc
    unfold turnC
    have := Int.emod_nonneg (x * 7 + r / 3) (show (16 : Int) ≠ 0 by decide)
    have := Int.emod_lt_of_pos (x * 7 + r / 3) (show (0 : Int) < 16 by decide)
    omega
theorem othP_len (r : Int) (pic : List (List Int)) : (othP r pic).length = pic.length := by simp [othP]
theorem other_step {ns : List Int} (hb : ∀ z ∈ ns, Builtin.Int.intBits z ≤ 1048576) {G : GH} {n : Nat} {pic : List (List Int)} {wide : Nat} {a6 a14 : Option W} (hp : PicAt G n pic) (g : Good pic wide) :
    ∃ m G' r, (sSet 10 (mComp (miA (mRevL (mVar 9))) (gN 15) mYes (mComp (miA (mVar 15)) (gN 3) mYes (mBin fMod (mBin fAdd (mBin fMul (mVar 3) (mC (.int 7))) (mBin fFdiv (mCall m_law_mixed [] (mCons (mVar 0) (mCons (mC (.int 1)) mNil))) (mC (.int 3)))) (mC (.int 16))) [3]) [15])) [some (scr ns), none, none, none, none, none, a6, none, none, some (.loc n), none, none, none, none, a14, none, none, none] G = .nx [some (scr ns), none, none, none, none, none, a6, none, none, some (.loc n), some (.loc m), none, none, none, a14, none, none, none] G' ∧ NewP G G' m (othP r pic) := by
  obtain ⟨ms, h⟩ := hp
  obtain ⟨r, _, hmx⟩ := mixed_nat hb 1 (by decide)
  have gh1 := g.h1
  have hml : ms.length = pic.length := by have := h.len; simpa using this
  have hN := newP_laid G (othP r pic)
  refine ⟨G.length + (othP r pic).length, laidR G ((othP r pic).map iW), r, ?_, hN⟩
  have l3 : Nat.log2 3 < 9000 := by decide
  have hc : compF [] (gN 15) mYes (mComp (miA (mVar 15)) (gN 3) mYes (mBin fMod (mBin fAdd (mBin fMul (mVar 3) (mC (.int 7))) (mBin fFdiv (mCall m_law_mixed [] (mCons (mVar 0) (mCons (mC (.int 1)) mNil))) (mC (.int 3)))) (mC (.int 16))) [3])
      [some (scr ns), none, none, none, none, none, a6, none, none, some (.loc n), none, none, none, none, a14, none, none, none] (ms.map W.loc).reverse G = .ok (locs G.length (othP r pic).length) (G ++ (othP r pic).map fun r => .lst (iW r)) := by
    rw [← List.map_reverse]
    refine compF_allocP (fun r => iW r) (fun xs => still_nil) (paired_map (paired_of (by rw [List.length_reverse, othP_len, hml]) fun i k row ek er xs => ⟨[some (scr ns), none, none, none, none, none, a6, none, none, some (.loc n), none, none, none, none, a14, some (.loc k), none, none], rfl, rfl, ?_⟩))
    unfold othP at er
    rw [List.getElem?_map] at er
    cases ez : pic.reverse[i]? with
    | none => rw [ez] at er; cases er
    | some z =>
      rw [ez] at er
      cases er
      have hi : i < ms.length := by
        have := (List.getElem?_eq_some_iff.mp ek).1
        rwa [List.length_reverse] at this
      have hk : G[k]? = some (.lst (iW z)) := by
        rw [List.getElem?_reverse hi] at ek
        rw [List.getElem?_reverse (by omega)] at ez
        rw [hml] at ek
        obtain ⟨u, eu, gk⟩ := paired_right h.row ek
        rw [List.getElem?_map, ez] at eu
        cases eu
        exact gk
      have hzm : z ∈ pic := List.mem_reverse.mp (List.mem_of_getElem? ez)
      have hk2 := get_mono hk xs
      have hit := iterA_at hk2
      have hlz : (iW z).length ≤ 16777216 := by rw [List.length_map, g.row z hzm]; have := g.w1; omega
      have hin := compF_paired (src := [(k, iW z)]) (g := gN 3) (c := mYes) (e := mBin fMod (mBin fAdd (mBin fMul (mVar 3) (mC (.int 7))) (mBin fFdiv (mCall m_law_mixed [] (mCons (mVar 0) (mCons (mC (.int 1)) mNil))) (mC (.int 3)))) (mC (.int 16))) (τ := [some (scr ns), none, none, none, none, none, a6, none, none, some (.loc n), none, none, none, none, a14, some (.loc k), none, none]) (G := G ++ xs) (ws := iW z) (ys := z.map (turnC r)) W.int (still_of hk2) (by
        refine paired_of (by simp) fun j x y e1 e2 => ?_
        rw [List.getElem?_map] at e1 e2
        cases ey : z[j]? with
        | none => rw [ey] at e1; cases e1
        | some c =>
          rw [ey] at e1 e2
          cases e1
          cases e2
          have hcc := g.cell z hzm c (List.mem_of_getElem? ey)
          refine ⟨[some (scr ns), none, none, some (.int c), none, none, a6, none, none, some (.loc n), none, none, none, none, a14, some (.loc k), none, none], rfl, rfl, ?_⟩
          have m7 := mul_seven hcc.1 hcc.2 (G ++ xs)
          have hmx' := hmx (G ++ xs)
          have hmx2 : m_law_mixed [scr ns, .int 1] (G ++ xs) = .ok (.int r) (G ++ xs) := hmx'
          generalize G ++ xs = G1 at *
          unfold turnC
          simp [m7, hmx2, fFdiv_int, fMod_int, l3])
      show mComp _ _ _ _ _ _ _ = R.ok (T.tmp ((z.map (turnC r)).map W.int)) _
      generalize iW z = Z at *
      generalize (z.map (turnC r)).map W.int = Y at *
      generalize G ++ xs = G1 at *
      simp [mComp_at, miA_at, hit, wipeS, hlz, hin]
  have hrev : fRevL (.val (.loc n)) G = .ok (.tmp (ms.map W.loc).reverse) G := by
    unfold fRevL
    simp [h.top]
  have it : iterA (.tmp (ms.map W.loc).reverse) G = .ok ((ms.map W.loc).reverse, []) G := rfl
  have hl2 : ((ms.map W.loc).reverse).length ≤ 16777216 := by simp; omega
  have e : laidR G ((othP r pic).map iW) = (G ++ (othP r pic).map fun r => GO.lst (iW r)) ++ [.lst (locs G.length (othP r pic).length)] := by
    unfold laidR
    rw [List.map_map, List.append_assoc, List.length_map]
    rfl
  rw [e]
  have hlen : (G ++ (othP r pic).map fun r => GO.lst (iW r)).length = G.length + (othP r pic).length := by simp
  generalize (G ++ (othP r pic).map fun r => GO.lst (iW r)) = G1 at *
  generalize (ms.map W.loc).reverse = us at *
  generalize locs G.length (othP r pic).length = vs at *
  generalize scr ns = S at *
  simp [mComp_at, miA_at, hrev, it, wipeS, hl2, hc, hlen]
end Lk08
set_option Elab.async false
set_option linter.all false
set_option maxRecDepth 100000
set_option maxHeartbeats 4000000
namespace Lk08
open PySem PySem.Spec PyProof.Rows L2 Sy
open N5 N6 N7
theorem law_a {ns : List Int} (hb : ∀ z ∈ ns, Builtin.Int.intBits z ≤ 1048576) : ∃ n m s H c1 c2 c3 pic oth cs wide rows G, Good pic wide ∧ Good oth wide ∧ oth.length = pic.length ∧ GoodM wide rows ∧ rows.length = pic.length ∧ (cs.length ≤ 10 ∧ ∀ c ∈ cs, 0 ≤ c ∧ c ≤ 15) ∧ Env G n m s H c1 c2 c3 pic oth cs ∧
    ∀ rest, (sSeq (sSet 9 (mCall m_law_picture [] (mCons (mVar 0) (mCons (mC (.int 3)) (mCons (mC (.int 6)) mNil))))) (sSeq (sSet 14 (mBi fLen (mConsT (mBin fIx (mVar 9) (mC (.int 0))) mNilT))) (sSeq (sSet 6 (mBi fLen (mConsT (mVar 9) mNilT))) (sSeq (sSet 10 (mComp (miA (mRevL (mVar 9))) (gN 15) mYes (mComp (miA (mVar 15)) (gN 3) mYes (mBin fMod (mBin fAdd (mBin fMul (mVar 3) (mC (.int 7))) (mBin fFdiv (mCall m_law_mixed [] (mCons (mVar 0) (mCons (mC (.int 1)) mNil))) (mC (.int 3)))) (mC (.int 16))) [3]) [15])) (sSeq (sSet 12 (mCall m_law_some [] (mCons (mCall m_law_mixed [] (mCons (mVar 0) (mCons (mC (.int 14)) mNil))) (mCons (mVar 9) mNil)))) (sSeq (sSet 8 (mCall m_law_mask [] (mCons (mVar 0) (mCons (mC (.int 15)) (mCons (mVar 14) (mCons (mVar 6) mNil)))))) (sSeq (sSet 5 (mLst (mCons (mCall m_law_copied [] (mCons (mVar 9) mNil)) (mCons (mCall m_law_copied [] (mCons (mVar 10) mNil)) (mCons (mBi fList (mConsT (mVar 12) mNilT)) mNil))))) rest))))))) [some (scr ns), none, none, none, none, none, none, none, none, none, none, none, none, none, none, none, none, none] [] =
      rest [some (scr ns), none, none, none, none, some (.loc H), some (.int pic.length), none, some (mk wide rows), some (.loc n), some (.loc m), none, some (.loc s), none, some (.int wide), none, none, none] G := by
  obtain ⟨pic, wide, G1, g, hpic, hrows, -⟩ := picB_eq hb 3 6 (by decide) (by decide) (by decide) []
  have hpic' : m_law_picture [scr ns, .int 3, .int 6] [] = .ok (.loc 0) G1 := hpic
  have hrows' : PicAt G1 0 pic := ⟨_, hrows⟩
  clear hpic hrows
  have h0 := g.h0
  have h1 := g.h1
  have w0 := g.w0
  have w1 := g.w1
  obtain ⟨b0, d2, d3, d1⟩ : ∃ b0, fIx (.val (.loc 0)) (.val (.int 0)) G1 = .ok (.val (.loc b0)) G1 ∧ fLen [.val (.loc b0)] G1 = .ok (.val (.int wide)) G1 ∧ fLen [.val (.loc 0)] G1 = .ok (.val (.int pic.length)) G1 := by
    obtain ⟨ms, h⟩ := hrows'
    obtain ⟨b0, d2, d3⟩ := len_row0 h g
    exact ⟨b0, d2, d3, len_pic h⟩
  obtain ⟨m, G2, r, hoth, hN⟩ := other_step hb (a6 := some (.int pic.length)) (a14 := some (.int wide)) hrows' g
  have hp2 := hrows'.keep hN.keep
  have hq2 := hN.pic
  have go := othP_good g r
  have hol := othP_len r pic
  obtain ⟨r14, _, hmx⟩ := mixed_nat hb 14 (by decide)
  have hmx' : m_law_mixed [scr ns, .int 14] G2 = .ok (.int r14) G2 := hmx G2
  obtain ⟨cs, xs, s, hsome, _, hs, hcl, hcc⟩ := some_eq hp2 g r14
  have hp3 := hp2.keep (Keeps.app G2 xs)
  have hq3 := hq2.keep (Keeps.app G2 xs)
  generalize hG3 : G2 ++ xs = G3 at *
  obtain ⟨rows, ys, gm, hrl, hmask⟩ := mask_eq hb 15 wide pic.length (by decide) w0 w1 h0 h1 G3
  have hmask' : m_law_mask [scr ns, .int 15, .int wide, .int pic.length] G3 = .ok (mk wide rows) (G3 ++ ys) := hmask
  have hp4 := hp3.keep (Keeps.app G3 ys)
  have hq4 := hq3.keep (Keeps.app G3 ys)
  have hs4 := (Keeps.app G3 ys).get hs
  generalize hG4 : G3 ++ ys = G4 at *
  have hc1 := copied_new hp4 (by omega)
  have hN1 := newP_laid G4 pic
  generalize othP (r : Int) pic = oth at *
  generalize G4.length + pic.length = c1 at *
  generalize laidR G4 (pic.map iW) = G5 at *
  have hq5 := hq4.keep hN1.keep
  have hp5 := hp4.keep hN1.keep
  have hs5 := hN1.keep.get hs4
  have hpp5 := hN1.pic
  have hc2 := copied_new hq5 (by omega)
  have hN2 := newP_laid G5 oth
  generalize G5.length + oth.length = c2 at *
  generalize laidR G5 (oth.map iW) = G6 at *
  have hq6 := hq5.keep hN2.keep
  have hp6 := hp5.keep hN2.keep
  have hs6 := hN2.keep.get hs5
  have hpp6 := hpp5.keep hN2.keep
  have hqq6 := hN2.pic
  have hlist := fList_loc hs6
  have hs7 := last_get G6 (.lst (iW cs))
  have k7 := Keeps.app G6 [GO.lst (iW cs)]
  have hH := last_get (G6 ++ [GO.lst (iW cs)]) (.lst [.loc c1, .loc c2, .loc G6.length])
  have k8 := Keeps.app (G6 ++ [GO.lst (iW cs)]) [GO.lst [.loc c1, .loc c2, .loc G6.length]]
  refine ⟨0, m, s, (G6 ++ [GO.lst (iW cs)]).length, c1, c2, G6.length, pic, oth, cs, wide, rows, G6 ++ [GO.lst (iW cs)] ++ [.lst [.loc c1, .loc c2, .loc G6.length]], g, go, hol, gm, hrl, ⟨hcl, hcc⟩,
    ⟨(hp6.keep k7).keep k8, (hq6.keep k7).keep k8, k8.get (k7.get hs6), hH, (hpp6.keep k7).keep k8, (hqq6.keep k7).keep k8, k8.get hs7⟩, fun rest => ?_⟩
  generalize scr ns = S at *
  rw [seq_nx (τ1 := [some S, none, none, none, none, none, none, none, none, some (.loc 0), none, none, none, none, none, none, none, none]) (G1 := G1) (by simp [hpic'])]
  rw [seq_nx (τ1 := [some S, none, none, none, none, none, none, none, none, some (.loc 0), none, none, none, none, some (.int wide), none, none, none]) (G1 := G1) (by simp [d2, d3])]
  rw [seq_nx (τ1 := [some S, none, none, none, none, none, some (.int pic.length), none, none, some (.loc 0), none, none, none, none, some (.int wide), none, none, none]) (G1 := G1) (by simp [d1])]
  rw [seq_nx hoth]
  rw [seq_nx (τ1 := [some S, none, none, none, none, none, some (.int pic.length), none, none, some (.loc 0), some (.loc m), none, some (.loc s), none, some (.int wide), none, none, none]) (G1 := G3) (by simp [hmx', hsome])]
  rw [seq_nx (τ1 := [some S, none, none, none, none, none, some (.int pic.length), none, some (mk wide rows), some (.loc 0), some (.loc m), none, some (.loc s), none, some (.int wide), none, none, none]) (G1 := G4) (by
    generalize mk wide rows = M at *
    simp [hmask'])]
  generalize mk wide rows = M at *
  generalize iW cs = C at *
  generalize hG7 : G6 ++ [GO.lst C] = G7 at *
  rw [seq_nx (τ1 := [some S, none, none, none, none, some (.loc G7.length), some (.int pic.length), none, some M, some (.loc 0), some (.loc m), none, some (.loc s), none, some (.int wide), none, none, none]) (G1 := G7 ++ [.lst [.loc c1, .loc c2, .loc G6.length]]) (by simp [hc1, hc2, hlist, hG7])]
end Lk08
set_option Elab.async false
set_option linter.all false
set_option maxRecDepth 100000
set_option maxHeartbeats 4000000
namespace Lk08
open PySem PySem.Spec PyProof.Rows L2 Sy
open N5 N6 N7
theorem fNotIn_ints {G : GH} {n : Nat} {is : List Int} (i : Int) (h : G[n]? = some (.lst (is.map W.int))) : fNotIn (.val (.int i)) (.val (.loc n)) G = .ok (.val (.bl (!decide (i ∈ is)))) G := by
  have := fIn_ints i h
  unfold fIn at this
  unfold fNotIn
  split at this
  · rename_i b e
    have h2 := this
    simp only [R.ok.injEq, T.val.injEq, W.bl.injEq] at h2
    rw [h2.1]
  · cases this
theorem places_step {S : W} {G : GH} {n m s H c1 c2 c3 : Nat} {pic oth : List (List Int)} {cs : List Int} {wide : Nat} {a4 a8 a10 : Option W} (e : Env G n m s H c1 c2 c3 pic oth cs) (g : Good pic wide) :
    ∃ L xs, (sSet 11 (mComp (miA (mCall m_law_places [] (mCons (mTup (mCons (mVar 14) (mCons (mBin fMul (mTup (mCons (mBin fSub (mCall m_law_power [] (mCons (mVar 14) mNil)) (mC (.int 1))) mNil)) (mVar 6)) mNil))) mNil))) (gT (gC (gN 16) (gC (gN 17) gE))) (mB (mBin fIn (mBin fIx (mBin fIx (mVar 9) (mVar 17)) (mVar 16)) (mVar 12))) (mTup (mCons (mVar 16) (mCons (mVar 17) mNil))) [16, 17])) [some S, none, none, none, a4, some (.loc H), some (.int pic.length), none, a8, some (.loc n), a10, none, some (.loc s), none, some (.int wide), none, none, none] G = .nx [some S, none, none, none, a4, some (.loc H), some (.int pic.length), none, a8, some (.loc n), a10, some (.loc L), some (.loc s), none, some (.int wide), none, none, none] (G ++ xs) ∧
      (G ++ xs)[L]? = some (.lst (pW ((placesP wide (fullR wide pic.length) pic.length).filter fun z => decide (cf pic z.1 z.2 ∈ cs)))) := by
  have h0 := g.h0
  have h1 := g.h1
  have w0 := g.w0
  have w1 := g.w1
  have hpw := power_pw wide (by omega) G
  have hmul := fMul_one (w := .int (pw wide - 1)) (k := pic.length) h0 (by omega) G
  have hfull : W.tup [.int wide, .tup (List.replicate pic.length (.int (pw wide - 1)))] = mk wide (fullR wide pic.length) := by
    have : nW (fullR wide pic.length) = List.replicate pic.length (.int (pw wide - 1)) := by
      rw [pw_pred]
      exact List.map_replicate
    unfold mk
    rw [this]
  have gf : GoodM wide (fullR wide pic.length) := full_good w0 w1 h0 h1
  have hpl := places_eq gf G
  have hfl : (fullR wide pic.length).length = pic.length := by simp
  rw [hfl] at hpl
  have hk := Keeps.app G [GO.lst (pW (placesP wide (fullR wide pic.length) pic.length))]
  have hL := last_get G (.lst (pW (placesP wide (fullR wide pic.length) pic.length)))
  have hR := e.p.keep hk
  have hs := hk.get e.s
  have hpin : ∀ z ∈ placesP wide (fullR wide pic.length) pic.length, z.1 < wide ∧ z.2 < pic.length := fun z hz => by
    have := mem_places.mp hz
    exact ⟨this.2.1, this.1⟩
  refine ⟨G.length + 1, [.lst (pW (placesP wide (fullR wide pic.length) pic.length)), .lst (pW ((placesP wide (fullR wide pic.length) pic.length).filter fun z => decide (cf pic z.1 z.2 ∈ cs)))], ?_, by simp⟩
  rw [show G ++ [GO.lst (pW (placesP wide (fullR wide pic.length) pic.length)), .lst (pW ((placesP wide (fullR wide pic.length) pic.length).filter fun z => decide (cf pic z.1 z.2 ∈ cs)))] = G ++ [GO.lst (pW (placesP wide (fullR wide pic.length) pic.length))] ++ [.lst (pW ((placesP wide (fullR wide pic.length) pic.length).filter fun z => decide (cf pic z.1 z.2 ∈ cs)))] by simp]
  have hlen : (G ++ [GO.lst (pW (placesP wide (fullR wide pic.length) pic.length))]).length = G.length + 1 := by simp
  have hlp : (pW (placesP wide (fullR wide pic.length) pic.length)).length ≤ 16777216 := by
    have := placesP_len wide (fullR wide pic.length) pic.length
    have h2 : wide * pic.length ≤ 24 * 24 := Nat.mul_le_mul w1 h1
    unfold pW
    rw [List.length_map]
    omega
  generalize hPs : placesP wide (fullR wide pic.length) pic.length = ps at *
  generalize hG1 : G ++ [GO.lst (pW ps)] = G1 at *
  obtain ⟨ms, hR⟩ := hR
  have hc := compF_filterP (src := [(G.length, pW ps)]) (g := gT (gC (gN 16) (gC (gN 17) gE))) (c := mB (mBin fIn (mBin fIx (mBin fIx (mVar 9) (mVar 17)) (mVar 16)) (mVar 12))) (e := mTup (mCons (mVar 16) (mCons (mVar 17) mNil)))
    (τ := [some S, none, none, none, a4, some (.loc H), some (.int pic.length), none, a8, some (.loc n), a10, none, some (.loc s), none, some (.int wide), none, none, none]) (G := G1) (ws := pW ps) (ys := ps) (fun z => decide (cf pic z.1 z.2 ∈ cs)) (fun z => W.tup [.int (z.1 : Nat), .int (z.2 : Nat)]) (still_of hL) (by
      refine paired_of (by unfold pW; simp) fun i x z e1 e2 => ?_
      unfold pW at e1
      rw [List.getElem?_map, e2] at e1
      cases e1
      obtain ⟨hx, hy⟩ := hpin z (List.mem_of_getElem? e2)
      refine ⟨[some S, none, none, none, a4, some (.loc H), some (.int pic.length), none, a8, some (.loc n), a10, none, some (.loc s), none, some (.int wide), none, some (.int (z.1 : Nat)), some (.int (z.2 : Nat))], rfl, ?_, fun _ => by simp⟩
      obtain ⟨a, _, ha, ia⟩ := row_at hR hy
      have hix := fIx_ints ha (x := z.1) (by rw [getD_row g hy]; exact hx)
      have hin := fIn_ints ((pic.getD z.2 []).getD z.1 0) hs
      unfold cf
      generalize (pic.getD z.2 []).getD z.1 0 = v at *
      simp [ia, hix, hin])
  have hit := iterA_at hL
  have e2 : (ps.filter fun z => decide (cf pic z.1 z.2 ∈ cs)).map (fun z => W.tup [.int (z.1 : Nat), .int (z.2 : Nat)]) = pW (ps.filter fun z => decide (cf pic z.1 z.2 ∈ cs)) := rfl
  rw [e2] at hc
  generalize pW (ps.filter fun z => decide (cf pic z.1 z.2 ∈ cs)) = V at *
  generalize pW ps = P at *
  generalize pw wide = q at *
  generalize hrep : List.replicate pic.length (W.int (q - 1)) = rep at *
  rw [← hfull] at hpl
  simp [hpw, hmul, hpl, mComp_at, miA_at, hit, wipeS, hlp, hc, hlen]
end Lk08
set_option Elab.async false
set_option linter.all false
set_option maxRecDepth 100000
set_option maxHeartbeats 4000000
namespace Lk08
open PySem PySem.Spec PyProof.Rows L2 Sy
open N5 N6 N7
theorem law_b {ns : List Int} {G : GH} {n m s H c1 c2 c3 : Nat} {pic oth : List (List Int)} {cs : List Int} {wide : Nat} {rows : List Nat} (e : Env G n m s H c1 c2 c3 pic oth cs) (g : Good pic wide) (gm : GoodM wide rows) (hrl : rows.length = pic.length) (hcl : cs.length ≤ 10) (hcc : ∀ c ∈ cs, 0 ≤ c ∧ c ≤ 15) :
    ∃ G' L7 a4 a11, Keeps G G' ∧ G'[L7]? = some (.lst [mk wide (lackR wide (maskC pic cs)), mk wide (lackR wide rows)]) ∧
    ∀ rest, (sSeq (sSet 4 (mCall m_mask_of [] (mCons (mBin fIx (mVar 5) (mC (.int 0))) (mCons (mBin fIx (mVar 5) (mC (.int 2))) mNil)))) (sSeq (sSet 11 (mComp (miA (mCall m_law_places [] (mCons (mTup (mCons (mVar 14) (mCons (mBin fMul (mTup (mCons (mBin fSub (mCall m_law_power [] (mCons (mVar 14) mNil)) (mC (.int 1))) mNil)) (mVar 6)) mNil))) mNil))) (gT (gC (gN 16) (gC (gN 17) gE))) (mB (mBin fIn (mBin fIx (mBin fIx (mVar 9) (mVar 17)) (mVar 16)) (mVar 12))) (mTup (mCons (mVar 16) (mCons (mVar 17) mNil))) [16, 17])) (sSeq (sIf (mNot (mTru (mCall m_law_same_mask [] (mCons (mVar 4) (mCons (mCall m_law_mask_by [] (mCons (mVar 11) (mCons (mVar 14) (mCons (mVar 6) mNil)))) mNil))))) (sRet (mC (.bl false))) sNext) (sSeq (sIf (mB (mBin fNe (mCall m_mask_of [] (mCons (mBin fIx (mVar 5) (mC (.int 0))) (mCons (mComp (miR (mCons (mC (.int 16)) mNil)) (gN 3) (mB (mBin fNotIn (mVar 3) (mVar 12))) (mVar 3) [3]) mNil))) (mCall m_other_mask [] (mCons (mVar 4) mNil)))) (sRet (mC (.bl false))) sNext) (sSeq (sSet 7 (mLst (mCons (mCall m_other_mask [] (mCons (mVar 4) mNil)) (mCons (mCall m_other_mask [] (mCons (mVar 8) mNil)) mNil)))) (sSeq (sIf (mB (mBin fNe (mCall m_other_mask [] (mCons (mCall m_either_mask [] (mCons (mVar 4) (mCons (mVar 8) mNil))) mNil)) (mCall m_both_masks [] (mCons (mBin fIx (mVar 7) (mC (.int 0))) (mCons (mBin fIx (mVar 7) (mC (.int 1))) mNil))))) (sRet (mC (.bl false))) sNext) (sSeq (sIf (mB (mBin fNe (mCall m_other_mask [] (mCons (mCall m_both_masks [] (mCons (mVar 4) (mCons (mVar 8) mNil))) mNil)) (mCall m_either_mask [] (mCons (mBin fIx (mVar 7) (mC (.int 0))) (mCons (mBin fIx (mVar 7) (mC (.int 1))) mNil))))) (sRet (mC (.bl false))) sNext) rest))))))) [some (scr ns), none, none, none, none, some (.loc H), some (.int pic.length), none, some (mk wide rows), some (.loc n), some (.loc m), none, some (.loc s), none, some (.int wide), none, none, none] G =
      rest [some (scr ns), none, none, none, a4, some (.loc H), some (.int pic.length), some (.loc L7), some (mk wide rows), some (.loc n), some (.loc m), a11, some (.loc s), none, some (.int wide), none, none, none] G' := by
  have gF := maskC_good g cs
  have hFl := maskC_len pic cs
  have h1 := g.h1
  have w1 := g.w1
  -- found
  have hmo := mask_of_eq e.hp g e.hs (by omega) hcc
  have i0 := e.h0
  have i2 := e.h2
  -- its places
  obtain ⟨L, xs, hpl, hL⟩ := places_step (S := scr ns) (a4 := some (mk wide (maskC pic cs))) (a8 := some (mk wide rows)) (a10 := some (.loc m)) e g
  have k1 := Keeps.app G xs
  have e1 := e.keep k1
  generalize G ++ xs = G1 at *
  -- the mask of them
  obtain ⟨ys, hby⟩ := mask_by_eq (wide := wide) (high := pic.length) hL (fun z hz => by
    have := mem_places.mp (List.mem_filter.mp hz).1
    exact ⟨by omega, this.1⟩) h1
  rw [places_mask g cs] at hby
  have hsm := same_mask_eq wide (maskC pic cs) (by omega) (G1 ++ ys)
  have k2 := Keeps.app G1 ys
  have e2 := e1.keep k2
  generalize G1 ++ ys = G2 at *
  -- the other cells
  have hoc : compF [] (gN 3) (mB (mBin fNotIn (mVar 3) (mVar 12))) (mVar 3) [some (scr ns), none, none, none, some (mk wide (maskC pic cs)), some (.loc H), some (.int pic.length), none, some (mk wide rows), some (.loc n), some (.loc m), some (.loc L), some (.loc s), none, some (.int wide), none, none, none] (rangeW 0 16) G2 = .ok (iW (otherC cs)) G2 := by
    have := compF_filterP (src := []) (g := gN 3) (c := mB (mBin fNotIn (mVar 3) (mVar 12))) (e := mVar 3) (τ := [some (scr ns), none, none, none, some (mk wide (maskC pic cs)), some (.loc H), some (.int pic.length), none, some (mk wide rows), some (.loc n), some (.loc m), some (.loc L), some (.loc s), none, some (.int wide), none, none, none]) (G := G2) (ws := rangeW 0 16) (ys := (List.range 16).map fun i : Nat => (i : Int)) (fun c => !decide (c ∈ cs)) W.int still_nil (by
      refine paired_of (by rw [rangeW_len, List.length_map, List.length_range]) fun i x z q1 q2 => ?_
      obtain ⟨hi, rfl⟩ := rangeW_get q1
      rw [List.getElem?_map, List.getElem?_range hi] at q2
      cases q2
      rw [Int.zero_add]
      have hni := fNotIn_ints (i : Int) e2.s
      refine ⟨[some (scr ns), none, none, some (.int i), some (mk wide (maskC pic cs)), some (.loc H), some (.int pic.length), none, some (mk wide rows), some (.loc n), some (.loc m), some (.loc L), some (.loc s), none, some (.int wide), none, none, none], rfl, ?_, fun _ => by simp⟩
      generalize mk wide (maskC pic cs) = MF at *
      generalize mk wide rows = M at *
      simp [hni])
    exact this
  have hir : iterR [.int 16] G2 = .ok (rangeW 0 16, []) G2 := iterR_nat 16 (by decide) G2
  have hlo : (otherC cs).length ≤ 16 := by
    unfold otherC
    exact Nat.le_trans (List.length_filter_le ..) (by simp)
  have hoc3 := last_get G2 (.lst (iW (otherC cs)))
  have k3 := Keeps.app G2 [GO.lst (iW (otherC cs))]
  have e3 := e2.keep k3
  have hmo2 := mask_of_eq e3.hp g hoc3 (by omega) (fun c hc => by
    unfold otherC at hc
    obtain ⟨i, hi, rfl⟩ := List.mem_map.mp (List.mem_filter.mp hc).1
    have := List.mem_range.mp hi
    omega)
  rw [mask_other g cs] at hmo2
  have i02 := e2.h0
  have hl16 : (rangeW 0 16).length ≤ 16777216 := by rw [rangeW_len]; decide
  generalize hG3 : G2 ++ [GO.lst (iW (otherC cs))] = G3 at *
  obtain ⟨zs, hot⟩ := other_mask_eq gF G3
  have hot' : m_other_mask [mk wide (maskC pic cs)] G3 = .ok (mk wide (lackR wide (maskC pic cs))) (G3 ++ zs) := hot
  have hne4 := mk_ne wide (lackR wide (maskC pic cs)) (G3 ++ zs)
  have k4 := Keeps.app G3 zs
  generalize G3 ++ zs = G4 at *
  -- what they lack
  obtain ⟨x5, ho5⟩ := other_mask_eq gF G4
  have ho5' : m_other_mask [mk wide (maskC pic cs)] G4 = .ok (mk wide (lackR wide (maskC pic cs))) (G4 ++ x5) := ho5
  have k5 := Keeps.app G4 x5
  generalize G4 ++ x5 = G5 at *
  obtain ⟨x6, ho6⟩ := other_mask_eq gm G5
  have ho6' : m_other_mask [mk wide rows] G5 = .ok (mk wide (lackR wide rows)) (G5 ++ x6) := ho6
  have k6 := Keeps.app G5 x6
  generalize G5 ++ x6 = G6 at *
  have hL7 := last_get G6 (.lst [mk wide (lackR wide (maskC pic cs)), mk wide (lackR wide rows)])
  have k7 := Keeps.app G6 [GO.lst [mk wide (lackR wide (maskC pic cs)), mk wide (lackR wide rows)]]
  generalize hG7 : G6 ++ [GO.lst [mk wide (lackR wide (maskC pic cs)), mk wide (lackR wide rows)]] = G7 at *
  have hll : rows.length = (maskC pic cs).length := by omega
  have gl1 := lackR_good gF
  have gl2 := lackR_good gm
  have hll2 : (lackR wide rows).length = (lackR wide (maskC pic cs)).length := by rw [lackR_len, lackR_len, hll]
  -- either, both
  have he8 := either_eq gF gm hll G7
  have k8 := Keeps.app G7 [GO.lst [mk wide (maskC pic cs), mk wide rows]]
  generalize G7 ++ [GO.lst [mk wide (maskC pic cs), mk wide rows]] = G8 at *
  have gE : GoodM wide (List.zipWith (opN 1) (maskC pic cs) rows) := zipWith_good (op := opN 1) (fun a b ha hb => opN_lt ha hb) gF gm hll
  have gB : GoodM wide (List.zipWith (opN 0) (maskC pic cs) rows) := zipWith_good (op := opN 0) (fun a b ha hb => opN_lt ha hb) gF gm hll
  obtain ⟨x9, ho9⟩ := other_mask_eq gE G8
  have ho9' : m_other_mask [mk wide (List.zipWith (opN 1) (maskC pic cs) rows)] G8 = .ok (mk wide (lackR wide (List.zipWith (opN 1) (maskC pic cs) rows))) (G8 ++ x9) := ho9
  rw [morgan1 gF gm hll] at ho9'
  have k9 := Keeps.app G8 x9
  have hL9 := k9.get (k8.get hL7)
  generalize G8 ++ x9 = G9 at *
  have hb9 := both_eq gl1 gl2 hll2 G9
  have k10 := Keeps.app G9 [GO.lst [mk wide (lackR wide (maskC pic cs)), mk wide (lackR wide rows)]]
  have hL10 := k10.get hL9
  have i9a : fIx (.val (.loc G6.length)) (.val (.int 0)) G9 = .ok (.val (mk wide (lackR wide (maskC pic cs)))) G9 := fIx_loc (k := 0) hL9 rfl
  have i9b : fIx (.val (.loc G6.length)) (.val (.int 1)) G9 = .ok (.val (mk wide (lackR wide rows))) G9 := fIx_loc (k := 1) hL9 rfl
  generalize G9 ++ [GO.lst [mk wide (lackR wide (maskC pic cs)), mk wide (lackR wide rows)]] = G10 at *
  have hne10 := mk_ne wide (List.zipWith (opN 0) (lackR wide (maskC pic cs)) (lackR wide rows)) G10
  -- both, either
  have hb11 := both_eq gF gm hll G10
  have k11 := Keeps.app G10 [GO.lst [mk wide (maskC pic cs), mk wide rows]]
  generalize G10 ++ [GO.lst [mk wide (maskC pic cs), mk wide rows]] = G11 at *
  obtain ⟨x12, ho12⟩ := other_mask_eq gB G11
  have ho12' : m_other_mask [mk wide (List.zipWith (opN 0) (maskC pic cs) rows)] G11 = .ok (mk wide (lackR wide (List.zipWith (opN 0) (maskC pic cs) rows))) (G11 ++ x12) := ho12
  rw [morgan0 gF gm hll] at ho12'
  have k12 := Keeps.app G11 x12
  have hL12 := k12.get (k11.get hL10)
  generalize G11 ++ x12 = G12 at *
  have he12 := either_eq gl1 gl2 hll2 G12
  have k13 := Keeps.app G12 [GO.lst [mk wide (lackR wide (maskC pic cs)), mk wide (lackR wide rows)]]
  have hL13 := k13.get hL12
  have i12a : fIx (.val (.loc G6.length)) (.val (.int 0)) G12 = .ok (.val (mk wide (lackR wide (maskC pic cs)))) G12 := fIx_loc (k := 0) hL12 rfl
  have i12b : fIx (.val (.loc G6.length)) (.val (.int 1)) G12 = .ok (.val (mk wide (lackR wide rows))) G12 := fIx_loc (k := 1) hL12 rfl
  generalize G12 ++ [GO.lst [mk wide (lackR wide (maskC pic cs)), mk wide (lackR wide rows)]] = G13 at *
  have hne13 := mk_ne wide (List.zipWith (opN 1) (lackR wide (maskC pic cs)) (lackR wide rows)) G13
  refine ⟨G13, G6.length, some (mk wide (maskC pic cs)), some (.loc L), k1.trans (k2.trans (k3.trans (k4.trans (k5.trans (k6.trans (k7.trans (k8.trans (k9.trans (k10.trans (k11.trans (k12.trans k13))))))))))), hL13, fun rest => ?_⟩
  generalize scr ns = S at *
  generalize mk wide (List.zipWith (opN 1) (lackR wide (maskC pic cs)) (lackR wide rows)) = Z1 at *
  generalize mk wide (List.zipWith (opN 0) (lackR wide (maskC pic cs)) (lackR wide rows)) = Z2 at *
  generalize mk wide (List.zipWith (opN 1) (maskC pic cs) rows) = Z3 at *
  generalize mk wide (List.zipWith (opN 0) (maskC pic cs) rows) = Z4 at *
  generalize mk wide (lackR wide (maskC pic cs)) = LF at *
  generalize mk wide (lackR wide rows) = LM at *
  generalize mk wide (maskC pic cs) = MF at *
  generalize mk wide rows = M at *
  generalize iW (otherC cs) = OC at *
  generalize rangeW 0 16 = R16 at *
  rw [seq_nx (τ1 := [some S, none, none, none, some MF, some (.loc H), some (.int pic.length), none, some M, some (.loc n), some (.loc m), none, some (.loc s), none, some (.int wide), none, none, none]) (G1 := G) (by simp [i0, i2, hmo])]
  rw [seq_nx hpl]
  rw [seq_no (G1 := G2) (by simp [hby, hsm])]
  rw [seq_no (G1 := G4) (by simp [i02, mComp_at, miR_at, hir, wipeS, hl16, hoc, hG3, hmo2, hot', hne4])]
  rw [seq_nx (τ1 := [some S, none, none, none, some MF, some (.loc H), some (.int pic.length), some (.loc G6.length), some M, some (.loc n), some (.loc m), some (.loc L), some (.loc s), none, some (.int wide), none, none, none]) (G1 := G7) (by simp [ho5', ho6', hG7])]
  rw [seq_no (G1 := G10) (by simp [he8, ho9', i9a, i9b, hb9, hne10])]
  rw [seq_no (G1 := G13) (by simp [hb11, ho12', i12a, i12b, he12, hne13])]
end Lk08
set_option Elab.async false
set_option linter.all false
set_option maxRecDepth 100000
set_option maxHeartbeats 4000000
namespace Lk08
open PySem PySem.Spec PyProof.Rows L2 Sy
open N5 N6 N7
/-! a thing is equal to itself -/
theorem mapO_nd {α : Type} {f : α → Option PyData} (hf : ∀ w d, f w = some d → noDict d = true) : ∀ {ws : List α} {ds : List PyData}, mapO f ws = some ds → noDictA ds = true
  | [], _, h => by cases h; rfl
  | w :: ws, ds, h => by
    rw [mapO_cons] at h
    cases e1 : f w with
    | none => rw [e1] at h; cases h
    | some d =>
      cases e2 : mapO f ws with
      | none => rw [e1, e2] at h; cases h
      | some es =>
        rw [e1, e2] at h
        cases h
        unfold noDictA
        rw [hf w d e1, mapO_nd hf e2]
        rfl
theorem toD_nd {G : GH} : ∀ (n : Nat) (w : W) (d : PyData), toD n G w = some d → noDict d = true
  | 0, _, _, h => by cases h
  | n + 1, w, d, h => by
    have key : ∀ ws ds, mapO (toD n G) ws = some ds → noDictA ds = true := fun ws ds e => mapO_nd (fun w d => toD_nd n w d) e
    cases w with
    | non => cases h; rfl
    | bl b => cases h; rfl
    | int b => cases h; rfl
    | str x =>
      have h' : (if x.cps.all (· < 0x110000) then some (PyData.str x) else none) = some d := h
      split at h'
      · cases h'; rfl
      · cases h'
    | tup ws =>
      have h' : (mapO (toD n G) ws).map PyData.tuple = some d := h
      cases e : mapO (toD n G) ws with
      | none => rw [e] at h'; cases h'
      | some ds => rw [e] at h'; cases h'; exact key ws ds e
    | frl ws =>
      have h' : (mapO (toD n G) ws).map PyData.list = some d := h
      cases e : mapO (toD n G) ws with
      | none => rw [e] at h'; cases h'
      | some ds => rw [e] at h'; cases h'; exact key ws ds e
    | loc k =>
      have h' : ((rdw G (.loc k)).bind fun ws => (mapO (toD n G) ws).map PyData.list) = some d := h
      cases e0 : rdw G (.loc k) with
      | none => rw [e0] at h'; cases h'
      | some ws =>
        rw [e0] at h'
        have h2 : (mapO (toD n G) ws).map PyData.list = some d := h'
        cases e : mapO (toD n G) ws with
        | none => rw [e] at h2; cases h2
        | some ds => rw [e] at h2; cases h2; exact key ws ds e
    | ty _ => cases h
    | cls _ => cases h
    | exn _ _ => cases h

theorem rows_dat8 {G : GH} {n : Nat} {pic : List (List Int)} (h : PicAt G n pic) : ∃ d, toD 8 G (.loc n) = some d ∧ d = pD pic := by
  obtain ⟨ms, h⟩ := h
  have e := mapO_rows 5 h.row
  refine ⟨pD pic, ?_, rfl⟩
  unfold toD
  simp [h.top, e]
theorem handed_eq {G : GH} {n m s H c1 c2 c3 : Nat} {pic oth : List (List Int)} {cs : List Int} (e : Env G n m s H c1 c2 c3 pic oth cs) : fEq (.val (.loc H)) (.tmp [.loc n, .loc m, .loc s]) G = .ok (.val (.bl true)) G := by
  obtain ⟨d1, a1, rfl⟩ := rows_dat8 e.p
  obtain ⟨d2, a2, rfl⟩ := rows_dat8 e.q
  obtain ⟨d3, b1, rfl⟩ := rows_dat8 e.hp
  obtain ⟨d4, b2, rfl⟩ := rows_dat8 e.hq
  have a3 := toD_ints 6 e.s
  have b3 := toD_ints 6 e.hs
  have h1 : toDT G (.tmp [.loc n, .loc m, .loc s]) = some (.list [pD pic, pD oth, .list (cs.map PyData.int)]) := by
    show (mapO (toD 8 G) [.loc n, .loc m, .loc s]).map PyData.list = _
    rw [mapO_cons, mapO_cons, mapO_cons, mapO_nil, a1, a2, a3]
    rfl
  have h2 : toDT G (.val (.loc H)) = some (.list [pD pic, pD oth, .list (cs.map PyData.int)]) := by
    show toD 9 G (.loc H) = _
    show (rdw G (.loc H)).bind (fun ws => (mapO (toD 8 G) ws).map PyData.list) = _
    rw [rdw_loc, e.h]
    show (mapO (toD 8 G) [.loc c1, .loc c2, .loc c3]).map PyData.list = _
    rw [mapO_cons, mapO_cons, mapO_cons, mapO_nil, b1, b2, b3]
    rfl
  exact eq_same h2 h1 (toD_nd 9 (.loc H) _ h2)
theorem blank_step {S : W} {G : GH} {n : Nat} {pic : List (List Int)} {wide c : Nat} {a4 a5 a6 a7 a8 a10 a11 a12 : Option W} (hp : PicAt G n pic) (g : Good pic wide) :
    ∃ B G', (sSet 2 (mComp (miA (mVar 9)) (gN 15) mYes (mBin fMul (mLst (mCons (mVar 3) mNil)) (mVar 14)) [15])) [some S, none, none, some (.int c), a4, a5, a6, a7, a8, some (.loc n), a10, a11, a12, none, some (.int wide), none, none, none] G = .nx [some S, none, some (.loc B), some (.int c), a4, a5, a6, a7, a8, some (.loc n), a10, a11, a12, none, some (.int wide), none, none, none] G' ∧ NewP G G' B (blankP wide pic.length c) := by
  obtain ⟨ms, h⟩ := hp
  have gh1 := g.h1
  have gw1 := g.w1
  have hml : ms.length = pic.length := by have := h.len; simpa using this
  have hN := newP_laid G (blankP wide pic.length c)
  rw [blankP_len] at hN
  refine ⟨G.length + pic.length, laidR G ((blankP wide pic.length c).map iW), ?_, hN⟩
  have hc : compF [(n, ms.map W.loc)] (gN 15) mYes (mBin fMul (mLst (mCons (mVar 3) mNil)) (mVar 14)) [some S, none, none, some (.int c), a4, a5, a6, a7, a8, some (.loc n), a10, a11, a12, none, some (.int wide), none, none, none] (ms.map W.loc) G = .ok (locs G.length (blankP wide pic.length c).length) (G ++ (blankP wide pic.length c).map fun r => .lst (iW r)) := by
    refine compF_allocP (fun r => iW r) (fun xs => still_of (get_mono h.top xs)) (paired_map (paired_of (by rw [blankP_len, hml]) fun i k row ek er xs => ⟨[some S, none, none, some (.int c), a4, a5, a6, a7, a8, some (.loc n), a10, a11, a12, none, some (.int wide), some (.loc k), none, none], rfl, rfl, ?_⟩))
    have erow : row = List.replicate wide (c : Int) := by
      unfold blankP at er
      rw [List.getElem?_replicate] at er
      split at er
      · cases er; rfl
      · cases er
    subst erow
    have hrep : fMul (.tmp [W.int c]) (.val (.int (wide : Nat))) (G ++ xs) = .ok (.tmp (iW (List.replicate wide (c : Int)))) (G ++ xs) := by
      have := repT (G := G ++ xs) (ws := [W.int c]) (k := wide) (by simp; omega) (by omega)
      rwa [rep_cells] at this
    generalize G ++ xs = G1 at *
    generalize iW (List.replicate wide (c : Int)) = Y at *
    simp [hrep]
  have it := iterA_at h.top
  have hl2 : (ms.map W.loc).length ≤ 16777216 := by simp; omega
  have e : laidR G ((blankP wide pic.length c).map iW) = (G ++ (blankP wide pic.length c).map fun r => GO.lst (iW r)) ++ [.lst (locs G.length (blankP wide pic.length c).length)] := by
    unfold laidR
    rw [List.map_map, List.append_assoc, List.length_map]
    rfl
  rw [e]
  have hlen : (G ++ (blankP wide pic.length c).map fun r => GO.lst (iW r)).length = G.length + pic.length := by simp [blankP_len]
  generalize (G ++ (blankP wide pic.length c).map fun r => GO.lst (iW r)) = G1 at *
  generalize ms.map W.loc = us at *
  generalize locs G.length (blankP wide pic.length c).length = vs at *
  simp [mComp_at, miA_at, it, wipeS, hl2, hc, hlen]
end Lk08
set_option Elab.async false
set_option linter.all false
set_option maxRecDepth 100000
set_option maxHeartbeats 4000000
namespace Lk08
open PySem PySem.Spec PyProof.Rows L2 Sy
open N5 N6 N7
theorem law_c {ns : List Int} (hbi : ∀ z ∈ ns, Builtin.Int.intBits z ≤ 1048576) {G : GH} {n m s H c1 c2 c3 L7 : Nat} {pic oth : List (List Int)} {cs : List Int} {wide : Nat} {rows us : List Nat} {a4 a11 : Option W} (e : Env G n m s H c1 c2 c3 pic oth cs) (g : Good pic wide) (go : Good oth wide) (hol : oth.length = pic.length) (gm : GoodM wide rows) (hrl : rows.length = pic.length)
    (hL7 : G[L7]? = some (.lst [mk wide us, mk wide (lackR wide rows)])) :
    ∃ G', (sSeq (sSet 3 (mBin fMod (mBin fFdiv (mCall m_law_mixed [] (mCons (mVar 0) (mCons (mC (.int 2)) mNil))) (mC (.int 7))) (mC (.int 16)))) (sSeq (sSet 2 (mComp (miA (mVar 9)) (gN 15) mYes (mBin fMul (mLst (mCons (mVar 3) mNil)) (mVar 14)) [15])) (sSeq (sSet 13 (mCall m_chosen_cells [] (mCons (mBin fIx (mVar 5) (mC (.int 0))) (mCons (mBin fIx (mVar 5) (mC (.int 1))) (mCons (mVar 8) mNil))))) (sSeq (sSet 1 (mCall m_chosen_cells [] (mCons (mBin fIx (mVar 5) (mC (.int 1))) (mCons (mVar 13) (mCons (mBin fIx (mVar 7) (mC (.int 1))) mNil))))) (sSeq (sIf (mOr (mB (mBin fNe (mCall m_chosen_cells [] (mCons (mVar 13) (mCons (mBin fIx (mVar 5) (mC (.int 0))) (mCons (mVar 8) mNil)))) (mVar 9))) (mB (mBin fNe (mVar 1) (mCall m_law_by_cells [] (mCons (mVar 10) (mCons (mVar 9) (mCons (mCall m_law_places [] (mCons (mBin fIx (mVar 7) (mC (.int 1))) mNil)) mNil))))))) (sRet (mC (.bl false))) sNext) (sSeq (sIf (mNot (mTru (mCall m_law_same [] (mCons (mVar 13) (mCons (mCall m_law_by_cells [] (mCons (mVar 9) (mCons (mVar 10) (mCons (mCall m_law_places [] (mCons (mVar 8) mNil)) mNil)))) mNil))))) (sRet (mC (.bl false))) sNext) (sSeq (sIf (mNot (mTru (mCall m_law_same [] (mCons (mCall m_painted [] (mCons (mBin fIx (mVar 5) (mC (.int 0))) (mCons (mVar 8) (mCons (mVar 3) mNil)))) (mCons (mCall m_law_by_cells [] (mCons (mVar 9) (mCons (mVar 2) (mCons (mCall m_law_places [] (mCons (mVar 8) mNil)) mNil)))) mNil))))) (sRet (mC (.bl false))) sNext) (sRet (mAndV (mBin fEq (mVar 5) (mLst (mCons (mVar 9) (mCons (mVar 10) (mCons (mVar 12) mNil))))) (mCall m_law_refused [] (mCons (mVar 9) (mCons (mVar 10) (mCons (mVar 8) (mCons (mCall m_law_mixed [] (mCons (mVar 0) (mCons (mC (.int 26)) mNil))) mNil)))))))))))))) [some (scr ns), none, none, none, a4, some (.loc H), some (.int pic.length), some (.loc L7), some (mk wide rows), some (.loc n), some (.loc m), a11, some (.loc s), none, some (.int wide), none, none, none] G = .rt (.bl true) G' := by
  have gl := lackR_good gm
  have hll : (lackR wide rows).length = oth.length := by rw [lackR_len, hrl, hol]
  -- the cell
  obtain ⟨r2, _, hmx⟩ := mixed_nat hbi 2 (by decide)
  have hmx' : m_law_mixed [scr ns, .int 2] G = .ok (.int r2) G := hmx G
  have l7 : Nat.log2 7 < 9000 := by decide
  obtain ⟨c, hcv, hc16⟩ := mod_nat ((r2 : Int) / 7) (m := 16) (by decide)
  have hcv' : (r2 : Int) / 7 % 16 = c := hcv
  -- a blank picture
  obtain ⟨B, G1, hblank, hNB⟩ := blank_step (S := scr ns) (wide := wide) (c := c) (a4 := a4) (a5 := some (.loc H)) (a6 := some (.int pic.length)) (a7 := some (.loc L7)) (a8 := some (mk wide rows)) (a10 := some (.loc m)) (a11 := a11) (a12 := some (.loc s)) e.p g
  have gB : Good (blankP wide pic.length c) wide := blankP_good g.w0 g.w1 g.h0 g.h1 (by omega) (by omega)
  have lB := blankP_len wide pic.length c
  have e1 := e.keep hNB.keep
  have hL1 := hNB.keep.get hL7
  have hB1 := hNB.pic
  -- told
  obtain ⟨G2, T, htold, hNT⟩ := chosen_eq e1.hp e1.hq g go hol gm hrl
  have e2 := e1.keep hNT.keep
  have hL2 := hNT.keep.get hL1
  have hT2 := hNT.pic
  have gT := chosenP_good (rows := rows) g go hol
  have lT := chosenP_len (p := pic) (q := oth) (rows := rows) (wide := wide)
  -- back
  obtain ⟨G3, K, hback, hNK⟩ := chosen_eq e2.hq hT2 go gT (by rw [lT, hol]) gl hll
  have e3 := e2.keep hNK.keep
  have hL3 := hNK.keep.get hL2
  have hT3 := hT2.keep hNK.keep
  have hK3 := hNK.pic
  -- once more
  obtain ⟨G4, Q, hagain, hNQ⟩ := chosen_eq hT3 e3.hp gT g lT.symm gm (by rw [lT]; exact hrl)
  rw [chosen_same g hol] at hNQ
  have e4 := e3.keep hNQ.keep
  have hL4 := hNQ.keep.get hL3
  have hT4 := hT3.keep hNQ.keep
  have hK4 := hK3.keep hNQ.keep
  have ne4 := PicAt.ne hNQ.pic e4.p
  rw [decide_eq_true rfl] at ne4
  -- by cells
  have hpl5 := places_eq gl G4
  have k5 := Keeps.app G4 [GO.lst (pW (placesP wide (lackR wide rows) (lackR wide rows).length))]
  have hP5 := last_get G4 (.lst (pW (placesP wide (lackR wide rows) (lackR wide rows).length)))
  have i4 : fIx (.val (.loc L7)) (.val (.int 1)) G4 = .ok (.val (mk wide (lackR wide rows))) G4 := fIx_loc (k := 1) hL4 rfl
  have i2b : fIx (.val (.loc L7)) (.val (.int 1)) G2 = .ok (.val (mk wide (lackR wide rows))) G2 := fIx_loc (k := 1) hL2 rfl
  have e5 := e4.keep k5
  have hT5 := hT4.keep k5
  have hK5 := hK4.keep k5
  generalize hG5 : G4 ++ [GO.lst (pW (placesP wide (lackR wide rows) (lackR wide rows).length))] = G5 at *
  obtain ⟨G6, Y, hby6, hNY⟩ := by_cells_eq e5.q e5.p go g (by omega) hP5 (fun z hz => by
    have := places_in hz
    rwa [hll] at this)
  rw [← chosen_back g hol hrl] at hNY
  have e6 := e5.keep hNY.keep
  have hT6 := hT5.keep hNY.keep
  have hK6 := hK5.keep hNY.keep
  have ne6 := PicAt.ne hK6 hNY.pic
  rw [decide_eq_true rfl] at ne6
  -- the same
  have hpl7 := places_eq gm G6
  have k7 := Keeps.app G6 [GO.lst (pW (placesP wide rows rows.length))]
  have hP7 := last_get G6 (.lst (pW (placesP wide rows rows.length)))
  have e7 := e6.keep k7
  generalize hG7 : G6 ++ [GO.lst (pW (placesP wide rows rows.length))] = G7 at *
  obtain ⟨G8, V, hby8, hNV⟩ := by_cells_eq e7.p e7.q g go hol hP7 (fun z hz => by
    have := places_in hz
    rwa [hrl] at this)
  rw [← chosen_by hrl] at hNV
  have hNT8 := hNT.grow (hNK.keep.trans (hNQ.keep.trans (k5.trans (hNY.keep.trans (k7.trans hNV.keep)))))
  obtain ⟨G9, hsame9, k9⟩ := same_eq gT hNT8 hNV.pic
  have e9 := e1.keep k9
  have hB9 := hB1.keep k9
  -- painted
  obtain ⟨G10, U, hpaint, hNU⟩ := painted_eq e9.hp g gm hrl (c := c) (by omega) (by omega)
  have e10 := e9.keep hNU.keep
  have hB10 := hB9.keep hNU.keep
  have hpl11 := places_eq gm G10
  have k11 := Keeps.app G10 [GO.lst (pW (placesP wide rows rows.length))]
  have hP11 := last_get G10 (.lst (pW (placesP wide rows rows.length)))
  have e11 := e10.keep k11
  have hB11 := hB10.keep k11
  generalize hG11 : G10 ++ [GO.lst (pW (placesP wide rows rows.length))] = G11 at *
  obtain ⟨G12, O, hby12, hNO⟩ := by_cells_eq e11.p hB11 g gB lB hP11 (fun z hz => by
    have := places_in hz
    rwa [hrl] at this)
  rw [← chosen_by hrl] at hNO
  have hNU12 := hNU.grow (k11.trans hNO.keep)
  obtain ⟨G13, hsame13, k13⟩ := same_eq (chosenP_good (rows := rows) g gB lB) hNU12 hNO.pic
  have e13 := e9.keep k13
  -- the end
  have hh := handed_eq e13
  obtain ⟨r26, _, hm26⟩ := mixed_nat hbi 26 (by decide)
  have hm26' : m_law_mixed [scr ns, .int 26] G13 = .ok (.int r26) G13 := hm26 G13
  obtain ⟨G14, href⟩ := refused_eq e13.p g e13.q go hol gm hrl r26
  refine ⟨G14, ?_⟩
  have q1 := e1.h0
  have q2 := e1.h1
  have q3 := e2.h1
  have q4 := e3.h0
  have q5 := e9.h0
  have q6 := e6.p
  generalize pW (placesP wide (lackR wide rows) (lackR wide rows).length) = P1 at *
  generalize pW (placesP wide rows rows.length) = P2 at *
  generalize mk wide (lackR wide rows) = LM at *
  generalize mk wide rows = M at *
  generalize scr ns = S at *
  generalize ((c : Nat) : Int) = cz at *
  rw [seq_nx (τ1 := [some S, none, none, some (.int cz), a4, some (.loc H), some (.int pic.length), some (.loc L7), some M, some (.loc n), some (.loc m), a11, some (.loc s), none, some (.int wide), none, none, none]) (G1 := G) (by simp [hmx', fFdiv_int, fMod_int, l7, hcv'])]
  rw [seq_nx hblank]
  rw [seq_nx (τ1 := [some S, none, some (.loc B), some (.int cz), a4, some (.loc H), some (.int pic.length), some (.loc L7), some M, some (.loc n), some (.loc m), a11, some (.loc s), some (.loc T), some (.int wide), none, none, none]) (G1 := G2) (by simp [q1, q2, htold])]
  rw [seq_nx (τ1 := [some S, some (.loc K), some (.loc B), some (.int cz), a4, some (.loc H), some (.int pic.length), some (.loc L7), some M, some (.loc n), some (.loc m), a11, some (.loc s), some (.loc T), some (.int wide), none, none, none]) (G1 := G3) (by simp [q3, i2b, hback])]
  rw [seq_no (G1 := G6) (by simp [q4, hagain, ne4, i4, hpl5, hby6, ne6])]
  rw [seq_no (G1 := G9) (by simp [hpl7, hby8, hsame9])]
  rw [seq_no (G1 := G13) (by simp [q5, hpaint, hpl11, hby12, hsame13])]
  simp [hh, hm26', href]
theorem law_ok : ∀ ns : List Int, ns.length ≤ 63 → (∀ z ∈ ns, Builtin.Int.intBits z ≤ 1048576) → ∃ G, m_law [.frl (ns.map W.int)] [] = .ok (.bl true) G := by
  intro ns _ hb
  obtain ⟨n, m, s, H, c1, c2, c3, pic, oth, cs, wide, rows, G, g, go, hol, gm, hrl, ⟨hcl, hcc⟩, e, ha⟩ := law_a hb
  obtain ⟨G2, L7, a4, a11, k2, hL7, hb2⟩ := law_b (ns := ns) e g gm hrl hcl hcc
  obtain ⟨G3, hc⟩ := law_c hb (a4 := a4) (a11 := a11) (e.keep k2) g go hol gm hrl hL7
  refine ⟨G3, mDef_ok [some (scr ns), none, none, none, none, none, none, none, none, none, none, none, none, none, none, none, none, none] ?_⟩
  unfold b_law
  exact (ha _).trans ((hb2 _).trans hc)
end Lk08
set_option Elab.async false
set_option linter.all false
set_option maxRecDepth 100000
set_option maxHeartbeats 4000000
namespace Lk08
open PySem PySem.Spec PyProof.Rows L2 Sy
def fb : List (PySem.W.Frag → Bool) := [itF names it, xtF names xt]
def fn0 : List He.DefD := [⟨("bit_at", none), "bit_at", "bit_at", defArgs s_bit_at, defBody s_bit_at, defScope s_bit_at, [], []⟩, ⟨("is_among", none), "is_among", "is_among", defArgs s_is_among, defBody s_is_among, defScope s_is_among, [], []⟩, ⟨("is_cell", none), "is_cell", "is_cell", defArgs s_is_cell, defBody s_is_cell, defScope s_is_cell, [], []⟩, ⟨("are_cells", none), "are_cells", "are_cells", defArgs s_are_cells, defBody s_are_cells, defScope s_are_cells, [], []⟩, ⟨("is_picture", none), "is_picture", "is_picture", defArgs s_is_picture, defBody s_is_picture, defScope s_is_picture, [], []⟩, ⟨("need_picture", none), "need_picture", "need_picture", defArgs s_need_picture, defBody s_need_picture, defScope s_need_picture, [], []⟩, ⟨("need_cell", none), "need_cell", "need_cell", defArgs s_need_cell, defBody s_need_cell, defScope s_need_cell, [], []⟩, ⟨("need_sides", none), "need_sides", "need_sides", defArgs s_need_sides, defBody s_need_sides, defScope s_need_sides, [], []⟩, ⟨("is_mask", none), "is_mask", "is_mask", defArgs s_is_mask, defBody s_is_mask, defScope s_is_mask, [], []⟩, ⟨("need_masks", none), "need_masks", "need_masks", defArgs s_need_masks, defBody s_need_masks, defScope s_need_masks, [], []⟩, ⟨("full_mask", none), "full_mask", "full_mask", defArgs s_full_mask, defBody s_full_mask, defScope s_full_mask, [], []⟩, ⟨("row_mask", none), "row_mask", "row_mask", defArgs s_row_mask, defBody s_row_mask, defScope s_row_mask, [], []⟩, ⟨("mask_of", none), "mask_of", "mask_of", defArgs s_mask_of, defBody s_mask_of, defScope s_mask_of, [], []⟩, ⟨("both_masks", none), "both_masks", "both_masks", defArgs s_both_masks, defBody s_both_masks, defScope s_both_masks, [], []⟩, ⟨("either_mask", none), "either_mask", "either_mask", defArgs s_either_mask, defBody s_either_mask, defScope s_either_mask, [], []⟩, ⟨("one_mask", none), "one_mask", "one_mask", defArgs s_one_mask, defBody s_one_mask, defScope s_one_mask, [], []⟩, ⟨("other_mask", none), "other_mask", "other_mask", defArgs s_other_mask, defBody s_other_mask, defScope s_other_mask, [], []⟩, ⟨("need_fit", none), "need_fit", "need_fit", defArgs s_need_fit, defBody s_need_fit, defScope s_need_fit, [], []⟩, ⟨("chosen_row", none), "chosen_row", "chosen_row", defArgs s_chosen_row, defBody s_chosen_row, defScope s_chosen_row, [], []⟩, ⟨("painted", none), "painted", "painted", defArgs s_painted, defBody s_painted, defScope s_painted, [], []⟩, ⟨("chosen_cells", none), "chosen_cells", "chosen_cells", defArgs s_chosen_cells, defBody s_chosen_cells, defScope s_chosen_cells, [], []⟩, ⟨("_law_cell", none), "_law_cell", "_law_cell", defArgs s_law_cell, defBody s_law_cell, defScope s_law_cell, [], []⟩, ⟨("_law_mixed", none), "_law_mixed", "_law_mixed", defArgs s_law_mixed, defBody s_law_mixed, defScope s_law_mixed, [], []⟩, ⟨("_law_whole", none), "_law_whole", "_law_whole", defArgs s_law_whole, defBody s_law_whole, defScope s_law_whole, [], []⟩, ⟨("_law_power", none), "_law_power", "_law_power", defArgs s_law_power, defBody s_law_power, defScope s_law_power, [], []⟩, ⟨("_law_picture", none), "_law_picture", "_law_picture", defArgs s_law_picture, defBody s_law_picture, defScope s_law_picture, [], []⟩, ⟨("_law_mask", none), "_law_mask", "_law_mask", defArgs s_law_mask, defBody s_law_mask, defScope s_law_mask, [], []⟩, ⟨("_law_places", none), "_law_places", "_law_places", defArgs s_law_places, defBody s_law_places, defScope s_law_places, [], []⟩, ⟨("_law_mask_by", none), "_law_mask_by", "_law_mask_by", defArgs s_law_mask_by, defBody s_law_mask_by, defScope s_law_mask_by, [], []⟩, ⟨("_law_same_mask", none), "_law_same_mask", "_law_same_mask", defArgs s_law_same_mask, defBody s_law_same_mask, defScope s_law_same_mask, [], []⟩]
def fn1 : List He.DefD := [⟨("_law_same", none), "_law_same", "_law_same", defArgs s_law_same, defBody s_law_same, defScope s_law_same, [], []⟩, ⟨("_law_class", none), "_law_class", "_law_class", defArgs s_law_class, defBody s_law_class, defScope s_law_class, [], []⟩, ⟨("_law_wrong_picture", none), "_law_wrong_picture", "_law_wrong_picture", defArgs s_law_wrong_picture, defBody s_law_wrong_picture, defScope s_law_wrong_picture, [], []⟩, ⟨("_law_wrong_mask", none), "_law_wrong_mask", "_law_wrong_mask", defArgs s_law_wrong_mask, defBody s_law_wrong_mask, defScope s_law_wrong_mask, [], []⟩, ⟨("_law_wrong_cell", none), "_law_wrong_cell", "_law_wrong_cell", defArgs s_law_wrong_cell, defBody s_law_wrong_cell, defScope s_law_wrong_cell, [], []⟩, ⟨("_law_copied", none), "_law_copied", "_law_copied", defArgs s_law_copied, defBody s_law_copied, defScope s_law_copied, [], []⟩, ⟨("_law_some", none), "_law_some", "_law_some", defArgs s_law_some, defBody s_law_some, defScope s_law_some, [], []⟩, ⟨("_law_word", none), "_law_word", "_law_word", defArgs s_law_word, defBody s_law_word, defScope s_law_word, [], []⟩, ⟨("_law_refused", none), "_law_refused", "_law_refused", defArgs s_law_refused, defBody s_law_refused, defScope s_law_refused, [], []⟩, ⟨("_law_by_cells", none), "_law_by_cells", "_law_by_cells", defArgs s_law_by_cells, defBody s_law_by_cells, defScope s_law_by_cells, [], []⟩, ⟨("law", none), "law", "law", defArgs s_law, defBody s_law, defScope s_law, [], []⟩]
def fn : List He.DefD := fn0 ++ fn1
def fa0 : List He.Fa := [.glo "bit_at", .glo "is_among", .glo "is_cell", .glo "are_cells", .glo "is_picture", .glo "need_picture", .glo "need_cell", .glo "need_sides", .glo "is_mask", .glo "need_masks", .glo "full_mask", .glo "row_mask", .glo "mask_of", .glo "both_masks", .glo "either_mask", .glo "one_mask", .glo "other_mask", .glo "need_fit", .glo "chosen_row", .glo "painted", .glo "chosen_cells", .glo "_law_cell", .glo "_law_mixed", .glo "_law_whole", .glo "_law_power", .glo "_law_picture", .glo "_law_mask", .glo "_law_places", .glo "_law_mask_by", .glo "_law_same_mask"]
def fa1 : List He.Fa := [.glo "_law_same", .glo "_law_class", .glo "_law_wrong_picture", .glo "_law_wrong_mask", .glo "_law_wrong_cell", .glo "_law_copied", .glo "_law_some", .glo "_law_word", .glo "_law_refused", .glo "_law_by_cells", .glo "law", .free "ValueError", .free "all", .free "bool", .free "enumerate", .free "int", .free "isinstance", .free "len", .free "list", .free "min", .free "range", .free "str", .free "tuple", .free "zip", .int "MOST_CELL" 15, .int "MOST_SIDE" 24, .glo "FolioError", .glo "BadPicture", .glo "BadCell", .glo "BadSize"]
def fa2 : List He.Fa := [.glo "OutOfPlace", .glo "BadMask", .glo "BadRule", .glo "BadEdge", .exc "BadPicture", .exc "BadCell", .exc "BadSize", .exc "BadMask"]
def fa : List He.Fa := fa0 ++ fa1 ++ fa2
theorem facts {P : Program} {w : World} {K : PySem.W.Frag} {h : Heap} {mg : Str → Option Value} {f : Addr} (X : K.In h) (G : h.Ns mainGlobals mg) (hfa : mg "law" = some (.ref f)) (c : He.SaysD fa fn K) (cb : (fb.all fun f => f K) = true) :
    ∃ fd : FuncData, (∀ (s : Shared) (v : Value), BindsTo s fd ⟨[v], []⟩ [("_law_script", v)]) ∧ ∀ base : Heap, K.In base → base.Ns mainGlobals mg → FnOk P w K mg base (L2N.CX P w) 9 f fd ["_law_script"] (spM K (caN names K) 1 m_law) := by
  have T : Tx K mg (caN names K) := ⟨He.free_ok X G (c.fact 41 (f := .free "ValueError") rfl), He.free_ok X G (c.fact 42 (f := .free "all") rfl), He.free_ok X G (c.fact 43 (f := .free "bool") rfl), He.free_ok X G (c.fact 44 (f := .free "enumerate") rfl), He.free_ok X G (c.fact 45 (f := .free "int") rfl), He.free_ok X G (c.fact 46 (f := .free "isinstance") rfl), He.free_ok X G (c.fact 47 (f := .free "len") rfl), He.free_ok X G (c.fact 48 (f := .free "list") rfl), He.free_ok X G (c.fact 49 (f := .free "min") rfl), He.free_ok X G (c.fact 50 (f := .free "range") rfl), He.free_ok X G (c.fact 51 (f := .free "str") rfl), He.free_ok X G (c.fact 52 (f := .free "tuple") rfl), He.free_ok X G (c.fact 53 (f := .free "zip") rfl), konW_intE (He.int_ok X G (c.fact 54 (f := .int "MOST_CELL" 15) rfl)), konW_intE (He.int_ok X G (c.fact 55 (f := .int "MOST_SIDE" 24) rfl)), cls_glo X G rfl (c.fact 56 (f := .glo "FolioError") rfl), cls_glo X G rfl (c.fact 57 (f := .glo "BadPicture") rfl), cls_glo X G rfl (c.fact 58 (f := .glo "BadCell") rfl), cls_glo X G rfl (c.fact 59 (f := .glo "BadSize") rfl), cls_glo X G rfl (c.fact 60 (f := .glo "OutOfPlace") rfl), cls_glo X G rfl (c.fact 61 (f := .glo "BadMask") rfl), cls_glo X G rfl (c.fact 62 (f := .glo "BadRule") rfl), cls_glo X G rfl (c.fact 63 (f := .glo "BadEdge") rfl), exW_of X G rfl (c.fact 57 (f := .glo "BadPicture") rfl) (c.fact 64 (f := .exc "BadPicture") rfl), exW_of X G rfl (c.fact 58 (f := .glo "BadCell") rfl) (c.fact 65 (f := .exc "BadCell") rfl), exW_of X G rfl (c.fact 59 (f := .glo "BadSize") rfl) (c.fact 66 (f := .exc "BadSize") rfl), exW_of X G rfl (c.fact 61 (f := .glo "BadMask") rfl) (c.fact 67 (f := .exc "BadMask") rfl), exs_of (fact_of cb 0) (fact_of cb 1)⟩
  obtain ⟨fd_bit_at, F_bit_at⟩ := c.def_ 0 (d := ⟨("bit_at", none), "bit_at", "bit_at", defArgs s_bit_at, defBody s_bit_at, defScope s_bit_at, [], []⟩) rfl
  have g_bit_at := He.glo_ok X G (c.fact 0 (f := .glo "bit_at") rfl)
  have b_bit_at : Binds K fd_bit_at P_bit_at [] := F_bit_at.bindsN fun _ _ _ _ _ _ us hl => match us, hl with | [_, _], _ => rfl
  obtain ⟨fd_is_among, F_is_among⟩ := c.def_ 1 (d := ⟨("is_among", none), "is_among", "is_among", defArgs s_is_among, defBody s_is_among, defScope s_is_among, [], []⟩) rfl
  have g_is_among := He.glo_ok X G (c.fact 1 (f := .glo "is_among") rfl)
  have b_is_among : Binds K fd_is_among P_is_among [] := F_is_among.bindsN fun _ _ _ _ _ _ us hl => match us, hl with | [_, _, _], _ => rfl
  obtain ⟨fd_is_cell, F_is_cell⟩ := c.def_ 2 (d := ⟨("is_cell", none), "is_cell", "is_cell", defArgs s_is_cell, defBody s_is_cell, defScope s_is_cell, [], []⟩) rfl
  have g_is_cell := He.glo_ok X G (c.fact 2 (f := .glo "is_cell") rfl)
  have b_is_cell : Binds K fd_is_cell P_is_cell [] := F_is_cell.bindsN fun _ _ _ _ _ _ us hl => match us, hl with | [_], _ => rfl
  obtain ⟨fd_are_cells, F_are_cells⟩ := c.def_ 3 (d := ⟨("are_cells", none), "are_cells", "are_cells", defArgs s_are_cells, defBody s_are_cells, defScope s_are_cells, [], []⟩) rfl
  have g_are_cells := He.glo_ok X G (c.fact 3 (f := .glo "are_cells") rfl)
  have b_are_cells : Binds K fd_are_cells P_are_cells [] := F_are_cells.bindsN fun _ _ _ _ _ _ us hl => match us, hl with | [_], _ => rfl
  obtain ⟨fd_is_picture, F_is_picture⟩ := c.def_ 4 (d := ⟨("is_picture", none), "is_picture", "is_picture", defArgs s_is_picture, defBody s_is_picture, defScope s_is_picture, [], []⟩) rfl
  have g_is_picture := He.glo_ok X G (c.fact 4 (f := .glo "is_picture") rfl)
  have b_is_picture : Binds K fd_is_picture P_is_picture [] := F_is_picture.bindsN fun _ _ _ _ _ _ us hl => match us, hl with | [_], _ => rfl
  obtain ⟨fd_need_picture, F_need_picture⟩ := c.def_ 5 (d := ⟨("need_picture", none), "need_picture", "need_picture", defArgs s_need_picture, defBody s_need_picture, defScope s_need_picture, [], []⟩) rfl
  have g_need_picture := He.glo_ok X G (c.fact 5 (f := .glo "need_picture") rfl)
  have b_need_picture : Binds K fd_need_picture P_need_picture [] := F_need_picture.bindsN fun _ _ _ _ _ _ us hl => match us, hl with | [_], _ => rfl
  obtain ⟨fd_need_cell, F_need_cell⟩ := c.def_ 6 (d := ⟨("need_cell", none), "need_cell", "need_cell", defArgs s_need_cell, defBody s_need_cell, defScope s_need_cell, [], []⟩) rfl
  have g_need_cell := He.glo_ok X G (c.fact 6 (f := .glo "need_cell") rfl)
  have b_need_cell : Binds K fd_need_cell P_need_cell [] := F_need_cell.bindsN fun _ _ _ _ _ _ us hl => match us, hl with | [_], _ => rfl
  obtain ⟨fd_need_sides, F_need_sides⟩ := c.def_ 7 (d := ⟨("need_sides", none), "need_sides", "need_sides", defArgs s_need_sides, defBody s_need_sides, defScope s_need_sides, [], []⟩) rfl
  have g_need_sides := He.glo_ok X G (c.fact 7 (f := .glo "need_sides") rfl)
  have b_need_sides : Binds K fd_need_sides P_need_sides [] := F_need_sides.bindsN fun _ _ _ _ _ _ us hl => match us, hl with | [_, _], _ => rfl
  obtain ⟨fd_is_mask, F_is_mask⟩ := c.def_ 8 (d := ⟨("is_mask", none), "is_mask", "is_mask", defArgs s_is_mask, defBody s_is_mask, defScope s_is_mask, [], []⟩) rfl
  have g_is_mask := He.glo_ok X G (c.fact 8 (f := .glo "is_mask") rfl)
  have b_is_mask : Binds K fd_is_mask P_is_mask [] := F_is_mask.bindsN fun _ _ _ _ _ _ us hl => match us, hl with | [_], _ => rfl
  obtain ⟨fd_need_masks, F_need_masks⟩ := c.def_ 9 (d := ⟨("need_masks", none), "need_masks", "need_masks", defArgs s_need_masks, defBody s_need_masks, defScope s_need_masks, [], []⟩) rfl
  have g_need_masks := He.glo_ok X G (c.fact 9 (f := .glo "need_masks") rfl)
  have b_need_masks : Binds K fd_need_masks P_need_masks [] := F_need_masks.bindsN fun _ _ _ _ _ _ us hl => match us, hl with | [_], _ => rfl
  obtain ⟨fd_full_mask, F_full_mask⟩ := c.def_ 10 (d := ⟨("full_mask", none), "full_mask", "full_mask", defArgs s_full_mask, defBody s_full_mask, defScope s_full_mask, [], []⟩) rfl
  have g_full_mask := He.glo_ok X G (c.fact 10 (f := .glo "full_mask") rfl)
  have b_full_mask : Binds K fd_full_mask P_full_mask [] := F_full_mask.bindsN fun _ _ _ _ _ _ us hl => match us, hl with | [_, _], _ => rfl
  obtain ⟨fd_row_mask, F_row_mask⟩ := c.def_ 11 (d := ⟨("row_mask", none), "row_mask", "row_mask", defArgs s_row_mask, defBody s_row_mask, defScope s_row_mask, [], []⟩) rfl
  have g_row_mask := He.glo_ok X G (c.fact 11 (f := .glo "row_mask") rfl)
  have b_row_mask : Binds K fd_row_mask P_row_mask [] := F_row_mask.bindsN fun _ _ _ _ _ _ us hl => match us, hl with | [_, _], _ => rfl
  obtain ⟨fd_mask_of, F_mask_of⟩ := c.def_ 12 (d := ⟨("mask_of", none), "mask_of", "mask_of", defArgs s_mask_of, defBody s_mask_of, defScope s_mask_of, [], []⟩) rfl
  have g_mask_of := He.glo_ok X G (c.fact 12 (f := .glo "mask_of") rfl)
  have b_mask_of : Binds K fd_mask_of P_mask_of [] := F_mask_of.bindsN fun _ _ _ _ _ _ us hl => match us, hl with | [_, _], _ => rfl
  obtain ⟨fd_both_masks, F_both_masks⟩ := c.def_ 13 (d := ⟨("both_masks", none), "both_masks", "both_masks", defArgs s_both_masks, defBody s_both_masks, defScope s_both_masks, [], []⟩) rfl
  have g_both_masks := He.glo_ok X G (c.fact 13 (f := .glo "both_masks") rfl)
  have b_both_masks : Binds K fd_both_masks P_both_masks [] := F_both_masks.bindsN fun _ _ _ _ _ _ us hl => match us, hl with | [_, _], _ => rfl
  obtain ⟨fd_either_mask, F_either_mask⟩ := c.def_ 14 (d := ⟨("either_mask", none), "either_mask", "either_mask", defArgs s_either_mask, defBody s_either_mask, defScope s_either_mask, [], []⟩) rfl
  have g_either_mask := He.glo_ok X G (c.fact 14 (f := .glo "either_mask") rfl)
  have b_either_mask : Binds K fd_either_mask P_either_mask [] := F_either_mask.bindsN fun _ _ _ _ _ _ us hl => match us, hl with | [_, _], _ => rfl
  obtain ⟨fd_one_mask, F_one_mask⟩ := c.def_ 15 (d := ⟨("one_mask", none), "one_mask", "one_mask", defArgs s_one_mask, defBody s_one_mask, defScope s_one_mask, [], []⟩) rfl
  have g_one_mask := He.glo_ok X G (c.fact 15 (f := .glo "one_mask") rfl)
  have b_one_mask : Binds K fd_one_mask P_one_mask [] := F_one_mask.bindsN fun _ _ _ _ _ _ us hl => match us, hl with | [_, _], _ => rfl
  obtain ⟨fd_other_mask, F_other_mask⟩ := c.def_ 16 (d := ⟨("other_mask", none), "other_mask", "other_mask", defArgs s_other_mask, defBody s_other_mask, defScope s_other_mask, [], []⟩) rfl
  have g_other_mask := He.glo_ok X G (c.fact 16 (f := .glo "other_mask") rfl)
  have b_other_mask : Binds K fd_other_mask P_other_mask [] := F_other_mask.bindsN fun _ _ _ _ _ _ us hl => match us, hl with | [_], _ => rfl
  obtain ⟨fd_need_fit, F_need_fit⟩ := c.def_ 17 (d := ⟨("need_fit", none), "need_fit", "need_fit", defArgs s_need_fit, defBody s_need_fit, defScope s_need_fit, [], []⟩) rfl
  have g_need_fit := He.glo_ok X G (c.fact 17 (f := .glo "need_fit") rfl)
  have b_need_fit : Binds K fd_need_fit P_need_fit [] := F_need_fit.bindsN fun _ _ _ _ _ _ us hl => match us, hl with | [_, _], _ => rfl
  obtain ⟨fd_chosen_row, F_chosen_row⟩ := c.def_ 18 (d := ⟨("chosen_row", none), "chosen_row", "chosen_row", defArgs s_chosen_row, defBody s_chosen_row, defScope s_chosen_row, [], []⟩) rfl
  have g_chosen_row := He.glo_ok X G (c.fact 18 (f := .glo "chosen_row") rfl)
  have b_chosen_row : Binds K fd_chosen_row P_chosen_row [] := F_chosen_row.bindsN fun _ _ _ _ _ _ us hl => match us, hl with | [_, _, _], _ => rfl
  obtain ⟨fd_painted, F_painted⟩ := c.def_ 19 (d := ⟨("painted", none), "painted", "painted", defArgs s_painted, defBody s_painted, defScope s_painted, [], []⟩) rfl
  have g_painted := He.glo_ok X G (c.fact 19 (f := .glo "painted") rfl)
  have b_painted : Binds K fd_painted P_painted [] := F_painted.bindsN fun _ _ _ _ _ _ us hl => match us, hl with | [_, _, _], _ => rfl
  obtain ⟨fd_chosen_cells, F_chosen_cells⟩ := c.def_ 20 (d := ⟨("chosen_cells", none), "chosen_cells", "chosen_cells", defArgs s_chosen_cells, defBody s_chosen_cells, defScope s_chosen_cells, [], []⟩) rfl
  have g_chosen_cells := He.glo_ok X G (c.fact 20 (f := .glo "chosen_cells") rfl)
  have b_chosen_cells : Binds K fd_chosen_cells P_chosen_cells [] := F_chosen_cells.bindsN fun _ _ _ _ _ _ us hl => match us, hl with | [_, _, _], _ => rfl
  obtain ⟨fd_law_cell, F_law_cell⟩ := c.def_ 21 (d := ⟨("_law_cell", none), "_law_cell", "_law_cell", defArgs s_law_cell, defBody s_law_cell, defScope s_law_cell, [], []⟩) rfl
  have g_law_cell := He.glo_ok X G (c.fact 21 (f := .glo "_law_cell") rfl)
  have b_law_cell : Binds K fd_law_cell P_law_cell [] := F_law_cell.bindsN fun _ _ _ _ _ _ us hl => match us, hl with | [_, _], _ => rfl
  obtain ⟨fd_law_mixed, F_law_mixed⟩ := c.def_ 22 (d := ⟨("_law_mixed", none), "_law_mixed", "_law_mixed", defArgs s_law_mixed, defBody s_law_mixed, defScope s_law_mixed, [], []⟩) rfl
  have g_law_mixed := He.glo_ok X G (c.fact 22 (f := .glo "_law_mixed") rfl)
  have b_law_mixed : Binds K fd_law_mixed P_law_mixed [] := F_law_mixed.bindsN fun _ _ _ _ _ _ us hl => match us, hl with | [_, _], _ => rfl
  obtain ⟨fd_law_whole, F_law_whole⟩ := c.def_ 23 (d := ⟨("_law_whole", none), "_law_whole", "_law_whole", defArgs s_law_whole, defBody s_law_whole, defScope s_law_whole, [], []⟩) rfl
  have g_law_whole := He.glo_ok X G (c.fact 23 (f := .glo "_law_whole") rfl)
  have b_law_whole : Binds K fd_law_whole P_law_whole [] := F_law_whole.bindsN fun _ _ _ _ _ _ us hl => match us, hl with | [_], _ => rfl
  obtain ⟨fd_law_power, F_law_power⟩ := c.def_ 24 (d := ⟨("_law_power", none), "_law_power", "_law_power", defArgs s_law_power, defBody s_law_power, defScope s_law_power, [], []⟩) rfl
  have g_law_power := He.glo_ok X G (c.fact 24 (f := .glo "_law_power") rfl)
  have b_law_power : Binds K fd_law_power P_law_power [] := F_law_power.bindsN fun _ _ _ _ _ _ us hl => match us, hl with | [_], _ => rfl
  obtain ⟨fd_law_picture, F_law_picture⟩ := c.def_ 25 (d := ⟨("_law_picture", none), "_law_picture", "_law_picture", defArgs s_law_picture, defBody s_law_picture, defScope s_law_picture, [], []⟩) rfl
  have g_law_picture := He.glo_ok X G (c.fact 25 (f := .glo "_law_picture") rfl)
  have b_law_picture : Binds K fd_law_picture P_law_picture [] := F_law_picture.bindsN fun _ _ _ _ _ _ us hl => match us, hl with | [_, _, _], _ => rfl
  obtain ⟨fd_law_mask, F_law_mask⟩ := c.def_ 26 (d := ⟨("_law_mask", none), "_law_mask", "_law_mask", defArgs s_law_mask, defBody s_law_mask, defScope s_law_mask, [], []⟩) rfl
  have g_law_mask := He.glo_ok X G (c.fact 26 (f := .glo "_law_mask") rfl)
  have b_law_mask : Binds K fd_law_mask P_law_mask [] := F_law_mask.bindsN fun _ _ _ _ _ _ us hl => match us, hl with | [_, _, _, _], _ => rfl
  obtain ⟨fd_law_places, F_law_places⟩ := c.def_ 27 (d := ⟨("_law_places", none), "_law_places", "_law_places", defArgs s_law_places, defBody s_law_places, defScope s_law_places, [], []⟩) rfl
  have g_law_places := He.glo_ok X G (c.fact 27 (f := .glo "_law_places") rfl)
  have b_law_places : Binds K fd_law_places P_law_places [] := F_law_places.bindsN fun _ _ _ _ _ _ us hl => match us, hl with | [_], _ => rfl
  obtain ⟨fd_law_mask_by, F_law_mask_by⟩ := c.def_ 28 (d := ⟨("_law_mask_by", none), "_law_mask_by", "_law_mask_by", defArgs s_law_mask_by, defBody s_law_mask_by, defScope s_law_mask_by, [], []⟩) rfl
  have g_law_mask_by := He.glo_ok X G (c.fact 28 (f := .glo "_law_mask_by") rfl)
  have b_law_mask_by : Binds K fd_law_mask_by P_law_mask_by [] := F_law_mask_by.bindsN fun _ _ _ _ _ _ us hl => match us, hl with | [_, _, _], _ => rfl
  obtain ⟨fd_law_same_mask, F_law_same_mask⟩ := c.def_ 29 (d := ⟨("_law_same_mask", none), "_law_same_mask", "_law_same_mask", defArgs s_law_same_mask, defBody s_law_same_mask, defScope s_law_same_mask, [], []⟩) rfl
  have g_law_same_mask := He.glo_ok X G (c.fact 29 (f := .glo "_law_same_mask") rfl)
  have b_law_same_mask : Binds K fd_law_same_mask P_law_same_mask [] := F_law_same_mask.bindsN fun _ _ _ _ _ _ us hl => match us, hl with | [_, _], _ => rfl
  obtain ⟨fd_law_same, F_law_same⟩ := c.def_ 30 (d := ⟨("_law_same", none), "_law_same", "_law_same", defArgs s_law_same, defBody s_law_same, defScope s_law_same, [], []⟩) rfl
  have g_law_same := He.glo_ok X G (c.fact 30 (f := .glo "_law_same") rfl)
  have b_law_same : Binds K fd_law_same P_law_same [] := F_law_same.bindsN fun _ _ _ _ _ _ us hl => match us, hl with | [_, _], _ => rfl
  obtain ⟨fd_law_class, F_law_class⟩ := c.def_ 31 (d := ⟨("_law_class", none), "_law_class", "_law_class", defArgs s_law_class, defBody s_law_class, defScope s_law_class, [], []⟩) rfl
  have g_law_class := He.glo_ok X G (c.fact 31 (f := .glo "_law_class") rfl)
  have b_law_class : Binds K fd_law_class P_law_class [] := F_law_class.bindsN fun _ _ _ _ _ _ us hl => match us, hl with | [_], _ => rfl
  obtain ⟨fd_law_wrong_picture, F_law_wrong_picture⟩ := c.def_ 32 (d := ⟨("_law_wrong_picture", none), "_law_wrong_picture", "_law_wrong_picture", defArgs s_law_wrong_picture, defBody s_law_wrong_picture, defScope s_law_wrong_picture, [], []⟩) rfl
  have g_law_wrong_picture := He.glo_ok X G (c.fact 32 (f := .glo "_law_wrong_picture") rfl)
  have b_law_wrong_picture : Binds K fd_law_wrong_picture P_law_wrong_picture [] := F_law_wrong_picture.bindsN fun _ _ _ _ _ _ us hl => match us, hl with | [_, _], _ => rfl
  obtain ⟨fd_law_wrong_mask, F_law_wrong_mask⟩ := c.def_ 33 (d := ⟨("_law_wrong_mask", none), "_law_wrong_mask", "_law_wrong_mask", defArgs s_law_wrong_mask, defBody s_law_wrong_mask, defScope s_law_wrong_mask, [], []⟩) rfl
  have g_law_wrong_mask := He.glo_ok X G (c.fact 33 (f := .glo "_law_wrong_mask") rfl)
  have b_law_wrong_mask : Binds K fd_law_wrong_mask P_law_wrong_mask [] := F_law_wrong_mask.bindsN fun _ _ _ _ _ _ us hl => match us, hl with | [_, _], _ => rfl
  obtain ⟨fd_law_wrong_cell, F_law_wrong_cell⟩ := c.def_ 34 (d := ⟨("_law_wrong_cell", none), "_law_wrong_cell", "_law_wrong_cell", defArgs s_law_wrong_cell, defBody s_law_wrong_cell, defScope s_law_wrong_cell, [], []⟩) rfl
  have g_law_wrong_cell := He.glo_ok X G (c.fact 34 (f := .glo "_law_wrong_cell") rfl)
  have b_law_wrong_cell : Binds K fd_law_wrong_cell P_law_wrong_cell [] := F_law_wrong_cell.bindsN fun _ _ _ _ _ _ us hl => match us, hl with | [_], _ => rfl
  obtain ⟨fd_law_copied, F_law_copied⟩ := c.def_ 35 (d := ⟨("_law_copied", none), "_law_copied", "_law_copied", defArgs s_law_copied, defBody s_law_copied, defScope s_law_copied, [], []⟩) rfl
  have g_law_copied := He.glo_ok X G (c.fact 35 (f := .glo "_law_copied") rfl)
  have b_law_copied : Binds K fd_law_copied P_law_copied [] := F_law_copied.bindsN fun _ _ _ _ _ _ us hl => match us, hl with | [_], _ => rfl
  obtain ⟨fd_law_some, F_law_some⟩ := c.def_ 36 (d := ⟨("_law_some", none), "_law_some", "_law_some", defArgs s_law_some, defBody s_law_some, defScope s_law_some, [], []⟩) rfl
  have g_law_some := He.glo_ok X G (c.fact 36 (f := .glo "_law_some") rfl)
  have b_law_some : Binds K fd_law_some P_law_some [] := F_law_some.bindsN fun _ _ _ _ _ _ us hl => match us, hl with | [_, _], _ => rfl
  obtain ⟨fd_law_word, F_law_word⟩ := c.def_ 37 (d := ⟨("_law_word", none), "_law_word", "_law_word", defArgs s_law_word, defBody s_law_word, defScope s_law_word, [], []⟩) rfl
  have g_law_word := He.glo_ok X G (c.fact 37 (f := .glo "_law_word") rfl)
  have b_law_word : Binds K fd_law_word P_law_word [] := F_law_word.bindsN fun _ _ _ _ _ _ us hl => match us, hl with | [_, _, _, _, _], _ => rfl
  obtain ⟨fd_law_refused, F_law_refused⟩ := c.def_ 38 (d := ⟨("_law_refused", none), "_law_refused", "_law_refused", defArgs s_law_refused, defBody s_law_refused, defScope s_law_refused, [], []⟩) rfl
  have g_law_refused := He.glo_ok X G (c.fact 38 (f := .glo "_law_refused") rfl)
  have b_law_refused : Binds K fd_law_refused P_law_refused [] := F_law_refused.bindsN fun _ _ _ _ _ _ us hl => match us, hl with | [_, _, _, _], _ => rfl
  obtain ⟨fd_law_by_cells, F_law_by_cells⟩ := c.def_ 39 (d := ⟨("_law_by_cells", none), "_law_by_cells", "_law_by_cells", defArgs s_law_by_cells, defBody s_law_by_cells, defScope s_law_by_cells, [], []⟩) rfl
  have g_law_by_cells := He.glo_ok X G (c.fact 39 (f := .glo "_law_by_cells") rfl)
  have b_law_by_cells : Binds K fd_law_by_cells P_law_by_cells [] := F_law_by_cells.bindsN fun _ _ _ _ _ _ us hl => match us, hl with | [_, _, _], _ => rfl
  obtain ⟨fd_law, F_law⟩ := c.def_ 40 (d := ⟨("law", none), "law", "law", defArgs s_law, defBody s_law, defScope s_law, [], []⟩) rfl
  have e := hfa.symm.trans (He.glo_ok X G (c.fact 40 (f := .glo "law") rfl))
  cases e
  have b := FunD.bindsA (ps := P_law) F_law fun _ _ _ _ _ _ us hl => match us, hl with | [_], _ => rfl
  refine ⟨fd_law, fun s v => b s [v] rfl, fun base _ _ => ?_⟩
  have O_bit_at := ok_bit_at (P := P) (w := w) (base := base) F_bit_at T
  have C_bit_at : Callable P w K mg base (caN names K) 1 "bit_at" P_bit_at [] m_bit_at := callable_mk g_bit_at F_bit_at.kp b_bit_at O_bit_at
  have O_is_among := ok_is_among (P := P) (w := w) (base := base) F_is_among T
  have C_is_among : Callable P w K mg base (caN names K) 1 "is_among" P_is_among [] m_is_among := callable_mk g_is_among F_is_among.kp b_is_among O_is_among
  have O_is_cell := ok_is_cell (P := P) (w := w) (base := base) F_is_cell T C_is_among
  have C_is_cell : Callable P w K mg base (caN names K) 2 "is_cell" P_is_cell [] m_is_cell := callable_mk g_is_cell F_is_cell.kp b_is_cell O_is_cell
  have O_are_cells := ok_are_cells (P := P) (w := w) (base := base) F_are_cells T C_is_cell
  have C_are_cells : Callable P w K mg base (caN names K) 3 "are_cells" P_are_cells [] m_are_cells := callable_mk g_are_cells F_are_cells.kp b_are_cells O_are_cells
  have O_is_picture := ok_is_picture (P := P) (w := w) (base := base) F_is_picture T C_are_cells
  have C_is_picture : Callable P w K mg base (caN names K) 4 "is_picture" P_is_picture [] m_is_picture := callable_mk g_is_picture F_is_picture.kp b_is_picture O_is_picture
  have O_need_picture := ok_need_picture (P := P) (w := w) (base := base) F_need_picture T C_is_picture
  have C_need_picture : Callable P w K mg base (caN names K) 5 "need_picture" P_need_picture [] m_need_picture := callable_mk g_need_picture F_need_picture.kp b_need_picture O_need_picture
  have O_need_cell := ok_need_cell (P := P) (w := w) (base := base) F_need_cell T C_is_cell
  have C_need_cell : Callable P w K mg base (caN names K) 3 "need_cell" P_need_cell [] m_need_cell := callable_mk g_need_cell F_need_cell.kp b_need_cell O_need_cell
  have O_need_sides := ok_need_sides (P := P) (w := w) (base := base) F_need_sides T C_is_among
  have C_need_sides : Callable P w K mg base (caN names K) 2 "need_sides" P_need_sides [] m_need_sides := callable_mk g_need_sides F_need_sides.kp b_need_sides O_need_sides
  have O_is_mask := ok_is_mask (P := P) (w := w) (base := base) F_is_mask T C_is_among
  have C_is_mask : Callable P w K mg base (caN names K) 2 "is_mask" P_is_mask [] m_is_mask := callable_mk g_is_mask F_is_mask.kp b_is_mask O_is_mask
  have O_need_masks := ok_need_masks (P := P) (w := w) (base := base) F_need_masks T C_is_mask
  have C_need_masks : Callable P w K mg base (caN names K) 3 "need_masks" P_need_masks [] m_need_masks := callable_mk g_need_masks F_need_masks.kp b_need_masks O_need_masks
  have O_full_mask := ok_full_mask (P := P) (w := w) (base := base) F_full_mask T C_need_sides
  have C_full_mask : Callable P w K mg base (caN names K) 3 "full_mask" P_full_mask [] m_full_mask := callable_mk g_full_mask F_full_mask.kp b_full_mask O_full_mask
  have O_row_mask := ok_row_mask (P := P) (w := w) (base := base) F_row_mask T
  have C_row_mask : Callable P w K mg base (caN names K) 1 "row_mask" P_row_mask [] m_row_mask := callable_mk g_row_mask F_row_mask.kp b_row_mask O_row_mask
  have O_mask_of := ok_mask_of (P := P) (w := w) (base := base) F_mask_of T C_are_cells C_need_picture C_row_mask
  have C_mask_of : Callable P w K mg base (caN names K) 6 "mask_of" P_mask_of [] m_mask_of := callable_mk g_mask_of F_mask_of.kp b_mask_of O_mask_of
  have O_both_masks := ok_both_masks (P := P) (w := w) (base := base) F_both_masks T C_need_masks
  have C_both_masks : Callable P w K mg base (caN names K) 4 "both_masks" P_both_masks [] m_both_masks := callable_mk g_both_masks F_both_masks.kp b_both_masks O_both_masks
  have O_either_mask := ok_either_mask (P := P) (w := w) (base := base) F_either_mask T C_need_masks
  have C_either_mask : Callable P w K mg base (caN names K) 4 "either_mask" P_either_mask [] m_either_mask := callable_mk g_either_mask F_either_mask.kp b_either_mask O_either_mask
  have O_one_mask := ok_one_mask (P := P) (w := w) (base := base) F_one_mask T C_need_masks
  have C_one_mask : Callable P w K mg base (caN names K) 4 "one_mask" P_one_mask [] m_one_mask := callable_mk g_one_mask F_one_mask.kp b_one_mask O_one_mask
  have O_other_mask := ok_other_mask (P := P) (w := w) (base := base) F_other_mask T C_full_mask C_need_masks C_one_mask
  have C_other_mask : Callable P w K mg base (caN names K) 5 "other_mask" P_other_mask [] m_other_mask := callable_mk g_other_mask F_other_mask.kp b_other_mask O_other_mask
  have O_need_fit := ok_need_fit (P := P) (w := w) (base := base) F_need_fit T
  have C_need_fit : Callable P w K mg base (caN names K) 1 "need_fit" P_need_fit [] m_need_fit := callable_mk g_need_fit F_need_fit.kp b_need_fit O_need_fit
  have O_chosen_row := ok_chosen_row (P := P) (w := w) (base := base) F_chosen_row T C_bit_at
  have C_chosen_row : Callable P w K mg base (caN names K) 2 "chosen_row" P_chosen_row [] m_chosen_row := callable_mk g_chosen_row F_chosen_row.kp b_chosen_row O_chosen_row
  have O_painted := ok_painted (P := P) (w := w) (base := base) F_painted T C_chosen_row C_need_cell C_need_fit C_need_masks C_need_picture
  have C_painted : Callable P w K mg base (caN names K) 6 "painted" P_painted [] m_painted := callable_mk g_painted F_painted.kp b_painted O_painted
  have O_chosen_cells := ok_chosen_cells (P := P) (w := w) (base := base) F_chosen_cells T C_chosen_row C_need_fit C_need_masks C_need_picture
  have C_chosen_cells : Callable P w K mg base (caN names K) 6 "chosen_cells" P_chosen_cells [] m_chosen_cells := callable_mk g_chosen_cells F_chosen_cells.kp b_chosen_cells O_chosen_cells
  have O_law_cell := ok_law_cell (P := P) (w := w) (base := base) F_law_cell T
  have C_law_cell : Callable P w K mg base (caN names K) 1 "_law_cell" P_law_cell [] m_law_cell := callable_mk g_law_cell F_law_cell.kp b_law_cell O_law_cell
  have O_law_mixed := ok_law_mixed (P := P) (w := w) (base := base) F_law_mixed T C_law_cell
  have C_law_mixed : Callable P w K mg base (caN names K) 2 "_law_mixed" P_law_mixed [] m_law_mixed := callable_mk g_law_mixed F_law_mixed.kp b_law_mixed O_law_mixed
  have O_law_whole := ok_law_whole (P := P) (w := w) (base := base) F_law_whole T
  have C_law_whole : Callable P w K mg base (caN names K) 1 "_law_whole" P_law_whole [] m_law_whole := callable_mk g_law_whole F_law_whole.kp b_law_whole O_law_whole
  have O_law_power := ok_law_power (P := P) (w := w) (base := base) F_law_power T
  have C_law_power : Callable P w K mg base (caN names K) 1 "_law_power" P_law_power [] m_law_power := callable_mk g_law_power F_law_power.kp b_law_power O_law_power
  have O_law_picture := ok_law_picture (P := P) (w := w) (base := base) F_law_picture T C_law_mixed
  have C_law_picture : Callable P w K mg base (caN names K) 3 "_law_picture" P_law_picture [] m_law_picture := callable_mk g_law_picture F_law_picture.kp b_law_picture O_law_picture
  have O_law_mask := ok_law_mask (P := P) (w := w) (base := base) F_law_mask T C_law_mixed C_law_power
  have C_law_mask : Callable P w K mg base (caN names K) 3 "_law_mask" P_law_mask [] m_law_mask := callable_mk g_law_mask F_law_mask.kp b_law_mask O_law_mask
  have O_law_places := ok_law_places (P := P) (w := w) (base := base) F_law_places T
  have C_law_places : Callable P w K mg base (caN names K) 1 "_law_places" P_law_places [] m_law_places := callable_mk g_law_places F_law_places.kp b_law_places O_law_places
  have O_law_mask_by := ok_law_mask_by (P := P) (w := w) (base := base) F_law_mask_by T C_law_power
  have C_law_mask_by : Callable P w K mg base (caN names K) 2 "_law_mask_by" P_law_mask_by [] m_law_mask_by := callable_mk g_law_mask_by F_law_mask_by.kp b_law_mask_by O_law_mask_by
  have O_law_same_mask := ok_law_same_mask (P := P) (w := w) (base := base) F_law_same_mask T C_law_whole
  have C_law_same_mask : Callable P w K mg base (caN names K) 2 "_law_same_mask" P_law_same_mask [] m_law_same_mask := callable_mk g_law_same_mask F_law_same_mask.kp b_law_same_mask O_law_same_mask
  have O_law_same := ok_law_same (P := P) (w := w) (base := base) F_law_same T C_law_whole
  have C_law_same : Callable P w K mg base (caN names K) 2 "_law_same" P_law_same [] m_law_same := callable_mk g_law_same F_law_same.kp b_law_same O_law_same
  have O_law_class := ok_law_class (P := P) (w := w) (base := base) F_law_class T
  have C_law_class : CallX P w K mg base (caN names K) 1 "_law_class" P_law_class m_law_class := callX_mk g_law_class F_law_class.kp b_law_class O_law_class
  have O_law_wrong_picture := ok_law_wrong_picture (P := P) (w := w) (base := base) F_law_wrong_picture T
  have C_law_wrong_picture : Callable P w K mg base (caN names K) 1 "_law_wrong_picture" P_law_wrong_picture [] m_law_wrong_picture := callable_mk g_law_wrong_picture F_law_wrong_picture.kp b_law_wrong_picture O_law_wrong_picture
  have O_law_wrong_mask := ok_law_wrong_mask (P := P) (w := w) (base := base) F_law_wrong_mask T C_law_power
  have C_law_wrong_mask : Callable P w K mg base (caN names K) 2 "_law_wrong_mask" P_law_wrong_mask [] m_law_wrong_mask := callable_mk g_law_wrong_mask F_law_wrong_mask.kp b_law_wrong_mask O_law_wrong_mask
  have O_law_wrong_cell := ok_law_wrong_cell (P := P) (w := w) (base := base) F_law_wrong_cell T
  have C_law_wrong_cell : Callable P w K mg base (caN names K) 1 "_law_wrong_cell" P_law_wrong_cell [] m_law_wrong_cell := callable_mk g_law_wrong_cell F_law_wrong_cell.kp b_law_wrong_cell O_law_wrong_cell
  have O_law_copied := ok_law_copied (P := P) (w := w) (base := base) F_law_copied T
  have C_law_copied : Callable P w K mg base (caN names K) 1 "_law_copied" P_law_copied [] m_law_copied := callable_mk g_law_copied F_law_copied.kp b_law_copied O_law_copied
  have O_law_some := ok_law_some (P := P) (w := w) (base := base) F_law_some T
  have C_law_some : Callable P w K mg base (caN names K) 1 "_law_some" P_law_some [] m_law_some := callable_mk g_law_some F_law_some.kp b_law_some O_law_some
  have O_law_word := ok_law_word (P := P) (w := w) (base := base) F_law_word T C_law_class C_chosen_cells C_mask_of C_painted
  have C_law_word : Callable P w K mg base (caN names K) 7 "_law_word" P_law_word [] m_law_word := callable_mk g_law_word F_law_word.kp b_law_word O_law_word
  have O_law_refused := ok_law_refused (P := P) (w := w) (base := base) F_law_refused T C_law_word C_law_wrong_cell C_law_wrong_mask C_law_wrong_picture
  have C_law_refused : Callable P w K mg base (caN names K) 8 "_law_refused" P_law_refused [] m_law_refused := callable_mk g_law_refused F_law_refused.kp b_law_refused O_law_refused
  have O_law_by_cells := ok_law_by_cells (P := P) (w := w) (base := base) F_law_by_cells T C_law_copied
  have C_law_by_cells : Callable P w K mg base (caN names K) 2 "_law_by_cells" P_law_by_cells [] m_law_by_cells := callable_mk g_law_by_cells F_law_by_cells.kp b_law_by_cells O_law_by_cells
  exact ok_law F_law T C_law_by_cells C_law_copied C_law_mask C_law_mask_by C_law_mixed C_law_picture C_law_places C_law_power C_law_refused C_law_same C_law_same_mask C_law_some C_both_masks C_chosen_cells C_either_mask C_mask_of C_other_mask C_painted
end Lk08
namespace Lk08
open PySem PySem.Spec PyProof.Rows L2 Sy
def loose0 : List PySem.Str := ["bit_at", "FolioError", "BadPicture", "BadCell", "BadSize", "OutOfPlace", "BadMask", "BadRule", "BadEdge", "MOST_SIDE", "MOST_CELL", "is_among", "is_cell", "are_cells", "is_picture", "need_picture", "need_cell", "need_sides", "is_mask", "need_masks", "full_mask", "row_mask", "mask_of", "both_masks", "either_mask", "one_mask", "other_mask", "need_fit", "chosen_row", "painted"]
def loose1 : List PySem.Str := ["chosen_cells", "_law_cell", "_law_mixed", "_law_whole", "_law_power", "_law_picture", "_law_mask", "_law_places", "_law_mask_by", "_law_same_mask", "_law_same", "_law_class", "_law_wrong_picture", "_law_wrong_mask", "_law_wrong_cell", "_law_copied", "_law_some", "_law_word", "_law_refused", "_law_by_cells"]
def loose : List PySem.Str := loose0 ++ loose1
abbrev R : PySem.W.OpenRow := PySem.W.OpenLaw.row PySem.Challenge.rw_cellfolio_k08_whole_masks_and_pictures
abbrev hk : PySem.W.Hook := hookX 4 fa fn fb
noncomputable def ob (s : PySem.W.SharedT) : AlX := obsXG 4 fa fn fb (HandSHeadRun.getT s)
theorem ob_eq (s : PySem.W.SharedT) : ob s = hk.obs s.abs := obsXG_eq (HandSHeadRun.getT_eq s)
set_option maxHeartbeats 0 in
theorem run (w : World) : HandSHeadRun.RunEq R (PySem.W.view R.prog [55]) hk ob 40000 loose w := by
  intro os
  kernel_rfl
end Lk08
open PySem PySem.W PySem.Calls PyProof.Rows
set_option maxHeartbeats 0 in
theorem PySem.Challenge.cw_cellfolio_k08_whole_masks_and_pictures_holds : PySem.Challenge.rw_cellfolio_k08_whole_masks_and_pictures.Holds := by
  w_on; o_law
  refine HandSHeadRun.head_any (r := OpenLaw.row PySem.Challenge.rw_cellfolio_k08_whole_masks_and_pictures) (q := view (OpenLaw.row PySem.Challenge.rw_cellfolio_k08_whole_masks_and_pictures).prog [55]) (H := Lk08.hk) (ob := Lk08.ob) (M := 40000) (loose := Lk08.loose) (d := HandSHeadRun.topDef (OpenLaw.row PySem.Challenge.rw_cellfolio_k08_whole_masks_and_pictures).prog 55) (kwd := []) Lk08.ob_eq
    (by kernel_rfl) (fun s => by kernel_rfl) Lk08.run (by kernel_rfl) (by kernel_rfl) (by kernel_rfl) (by rfl) (by first | assumption | decide +kernel) (by decide +kernel) ⟨rfl, rfl, rfl, rfl, rfl, by decide +kernel⟩ ?hw ?hc
  case hw => w_witness2
  case hc =>
    refine Sy.law_endX (l := PySem.Challenge.rw_cellfolio_k08_whole_masks_and_pictures) (k := 9) (x := "_law_script") (ca := Sy.caN Lk08.names) (m := Lk08.m_law) rfl (by kernel_rfl) ⟨rfl, by decide, by decide⟩ ?F Lk08.law_ok
    intro w mg fv h K KX c cb G hmg0
    have hmg : mg ("law" : PySem.Str) = some (.ref fv) := by
      have e : (HandSHeadRun.topDef (OpenLaw.row PySem.Challenge.rw_cellfolio_k08_whole_masks_and_pictures).prog 55).name = ("law" : PySem.Str) := by kernel_rfl
      rw [← e]
      exact hmg0
    exact Lk08.facts KX G hmg c cb
