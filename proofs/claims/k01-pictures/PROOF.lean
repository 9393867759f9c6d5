import PyProof.Rows.All
import HandS.ForMost
import HandS.Exc
import HandS.ExcOwn
import HandS.TryOnly
import HandS.TryMany
import HandS.CallSlots
import HandS.ExcCtx
import HandS.HotCalls
import HandS.IsInst
import HandS.Style
import HandS.TupMul
import HandS.Zip
import PyProof.Draws
import HandS.DeepEq
import PyProof.NeKinds
import HandS.WideBits
import HandS.Deep
import HandS.TupAny
import HandS.RevRange
import HandS.WordsExc
import HandS.More
import HandS.Defaults
import HandS.ExcIs
import HandS.HeadHook1
import HandS.RaiseMore
import HandS.Dict
import HandS.Text
import HandS.Replace
import PyProof.StrCalls6
import PyProof.FactsAll.str_6
import HandS.EndBits
import HandS.Head0
import HandS.Head1
import HandS.Head2
import HandS.HeadEnd
import HandS.HeadHook2
import PySem.Challenge.RW_cellfolio_k01_cells_and_pictures
set_option Elab.async false
set_option linter.all false
set_option maxRecDepth 100000
set_option maxHeartbeats 4000000
namespace Sy
open PySem PySem.Spec PyProof.Rows L2
abbrev SSt := L2.St

/-! own values: lists, dicts, instances are places in an own heap -/
inductive W where
  | non | bl (b : Bool) | int (i : Int) | str (x : Str) | tup (xs : List W) | loc (n : Nat) | ty (n : String) | cls (c : Nat) | frl (xs : List W) | exn (c : Nat) (a : Addr)

abbrev GK := List L2.Key
inductive GO where
  | lst (xs : List W) | dK (kvs : List (L2.Key × W)) | dT (kvs : List (GK × W)) | ins (c : Nat) (fs : List (Str × W))
abbrev GH := List GO
abbrev Sl := List (Option W)

inductive R (α : Type) where
  | ok (a : α) (G : GH) | ex (c : Nat) (fs : List (Str × W)) (G : GH) | bad

def R.bind {α β : Type} : R α → (α → GH → R β) → R β
  | .ok a G, k => k a G
  | .ex c fs G, _ => .ex c fs G
  | .bad, _ => .bad
@[simp] theorem R.bind_ok {α β : Type} (a : α) (G : GH) (k : α → GH → R β) : (R.ok a G).bind k = k a G := (rfl)
@[simp] theorem R.bind_ex {α β : Type} (c : Nat) (fs) (G : GH) (k : α → GH → R β) : (R.ex c fs G : R α).bind k = .ex c fs G := (rfl)
@[simp] theorem R.bind_bad {α β : Type} (k : α → GH → R β) : (R.bad : R α).bind k = .bad := (rfl)

/-- a value, or a list that nobody holds yet -/
inductive T where
  | val (w : W) | tmp (ws : List W)

/-- what never changes where it stands -/
def isStat : HO → Bool
  | .tup _ => true
  | .frz _ _ => true
  | _ => false
def Stay (H H' : Hp) : Prop := ∀ a u, isStat u = true → H a = some u → H' a = some u
theorem Stay.refl {H : Hp} : Stay H H := fun _ _ _ h => h
theorem Stay.trans {H H1 H2 : Hp} (a : Stay H H1) (b : Stay H1 H2) : Stay H H2 := fun x u s h => b x u s (a x u s h)
/-- a list that is locked for good, or written -/
def FzL (K : PySem.W.Frag) (H : Hp) (a : Addr) (xs : List V) : Prop := (∃ o, H a = some (.frz o (.lst xs))) ∨
  ∃ (o : Obj) (its : Array Value) (n : Nat), K.lookup a = some o ∧ o.cls = .type "list" ∧ o.dict = none ∧ o.data = .seq its n ∧ its.size ≤ sizeLine ∧ Vals xs its.toList
theorem FzL.sq {K : PySem.W.Frag} {H : Hp} {a : Addr} {xs : List V} (h : FzL K H a xs) : SqL K H a xs := by
  rcases h with ⟨o, h⟩ | h
  · exact .inl (.inr ⟨o, h⟩)
  · exact .inr h
theorem Stay.fz {K : PySem.W.Frag} {H H' : Hp} (t : Stay H H') {a : Addr} {xs : List V} (h : FzL K H a xs) : FzL K H' a xs := by
  rcases h with ⟨o, h⟩ | h
  · exact .inl ⟨o, t _ _ rfl h⟩
  · exact .inr h
theorem Stay.sqT {K : PySem.W.Frag} {H H' : Hp} (t : Stay H H') {a : Addr} {xs : List V} (h : SqT K H a xs) : SqT K H' a xs := by
  rcases h with h | h
  · rcases h with h | ⟨o, h⟩
    · exact .inl (.inl (t _ _ rfl h))
    · exact .inl (.inr ⟨o, t _ _ rfl h⟩)
  · exact .inr h
theorem Stay.laid {H : Hp} {p : Addr} {o : HO} (hp : H p = none) : Stay H (upd H p o) := fun a u _ h => by
  rw [upd_ne (ne_of_none h hp)]; exact h
theorem Stay.put {H : Hp} {p : Addr} {o : HO} (hp : ∀ u, H p = some u → isStat u = false) : Stay H (upd H p o) := fun a u s h => by
  have ne : a ≠ p := fun e => by subst e; rw [hp u h] at s; cases s
  rw [upd_ne ne]; exact h
theorem ns_lst {H : Hp} {p : Addr} {xs : List V} (h : H p = some (.lst xs)) : ∀ u, H p = some u → isStat u = false := fun u e => by
  rw [h] at e; cases e; rfl
/-! the relation to the layer's values -/
section
variable (K : PySem.W.Frag) (ca : Nat → Addr)
inductive RelW (ρ : List Addr) (H : Hp) : V → W → Prop
  | non : RelW ρ H .non .non
  | bl (b : Bool) : RelW ρ H (.bl b) (.bl b)
  | int (i : Int) : RelW ρ H (.int i) (.int i)
  | str (x : Str) : RelW ρ H (.str x) (.str x)
  | ty (n : String) : RelW ρ H (.ty n) (.ty n)
  | cls (c : Nat) : RelW ρ H (.ref (ca c)) (.cls c)
  | exn (c : Nat) (a : Addr) : RelW ρ H (.ref a) (.exn c a)
  | loc {n : Nat} {a : Addr} : ρ[n]? = some a → RelW ρ H (.ref a) (.loc n)
  | tup {a : Addr} {vs : List V} {ws : List W} : SqT K H a vs → vs.length = ws.length →
      (∀ (i : Nat) v w, vs[i]? = some v → ws[i]? = some w → RelW ρ H v w) → RelW ρ H (.ref a) (.tup ws)
  | frl {a : Addr} {vs : List V} {ws : List W} : FzL K H a vs → vs.length = ws.length →
      (∀ (i : Nat) v w, vs[i]? = some v → ws[i]? = some w → RelW ρ H v w) → RelW ρ H (.ref a) (.frl ws)

abbrev RelWs (ρ : List Addr) (H : Hp) (vs : List V) (ws : List W) : Prop := Paired (RelW K ca ρ H) vs ws

def ObjR (ρ : List Addr) (H : Hp) (a : Addr) : GO → Prop
  | .lst ws => ∃ vs, H a = some (.lst vs) ∧ RelWs K ca ρ H vs ws
  | .dK kvs => ∃ kvs', H a = some (.dK kvs') ∧ Paired (fun (p : L2.Key × V) (q : L2.Key × W) => p.1 = q.1 ∧ RelW K ca ρ H p.2 q.2) kvs' kvs
  | .dT kvs => ∃ kvs', H a = some (.dT kvs') ∧ Paired (fun (p : GK × V) (q : GK × W) => p.1 = q.1 ∧ RelW K ca ρ H p.2 q.2) kvs' kvs
  | .ins c fs => ∃ dx fs', H a = some (.ins (ca c) dx fs') ∧ Paired (fun (p : Str × V) (q : Str × W) => p.1 = q.1 ∧ RelW K ca ρ H p.2 q.2) fs' fs

structure Rep (ρ : List Addr) (G : GH) (H : Hp) : Prop where
  len : ρ.length = G.length
  nd : ρ.Nodup
  obj : ∀ (n : Nat) a o, ρ[n]? = some a → G[n]? = some o → ObjR K ca ρ H a o

/-- H0: the heap ahead of what made it -/
def RelT (H0 : Hp) (ρ : List Addr) (H : Hp) (v : V) : T → Prop
  | .val w => RelW K ca ρ H v w
  | .tmp ws => ∃ p vs, v = .ref p ∧ p ∉ ρ ∧ H0 p = none ∧ H p = some (.lst vs) ∧ RelWs K ca ρ H vs ws

def RelS (ρ : List Addr) (H : Hp) (σ : SSt) (τ : Sl) : Prop :=
  σ.length = τ.length ∧ ∀ (i : Nat) w, τ[i]? = some (some w) → ∃ v, σ[i]? = some (some v) ∧ RelW K ca ρ H v w

def ExF (ρ : List Addr) (H : Hp) : Option Addr → List (Str × W) → Prop
  | none, fs => fs = []
  | some d, fs => fs ≠ [] ∧ ∃ fs', H d = some (.xd fs') ∧ Paired (fun (p : Str × V) (q : Str × W) => p.1 = q.1 ∧ RelW K ca ρ H p.2 q.2) fs' fs
end

theorem mem_at {ρ : List Addr} {a : Addr} (h : a ∈ ρ) : ∃ n : Nat, ρ[n]? = some a := List.getElem?_of_mem h
structure Ext (ρ : List Addr) (H : Hp) (ρ' : List Addr) (H' : Hp) : Prop where
  pre : ∀ (n : Nat) a, ρ[n]? = some a → ρ'[n]? = some a
  new : ∀ a ∈ ρ', a ∈ ρ ∨ H a = none
  keep : ∀ b o, b ∉ ρ → H b = some o → H' b = some o

theorem Ext.refl {ρ : List Addr} {H : Hp} : Ext ρ H ρ H := ⟨fun _ _ h => h, fun _ h => .inl h, fun _ _ _ h => h⟩
theorem Ext.trans {ρ ρ1 ρ2 : List Addr} {H H1 H2 : Hp} (a : Ext ρ H ρ1 H1) (b : Ext ρ1 H1 ρ2 H2) : Ext ρ H ρ2 H2 where
  pre n x h := b.pre n x (a.pre n x h)
  new x h := by
    rcases b.new x h with z | z
    · exact a.new x z
    · by_cases hx : x ∈ ρ
      · exact .inl hx
      · cases e : H x with
        | none => exact .inr rfl
        | some o =>
          have q := a.keep x o hx e
          rw [z] at q; cases q
  keep x o hx e := by
    refine b.keep x o (fun hm => ?_) (a.keep x o hx e)
    rcases a.new x hm with z | z
    · exact hx z
    · rw [e] at z; cases z

section
variable {K : PySem.W.Frag} {ca : Nat → Addr} {ρ ρ' : List Addr} {G G' : GH} {H H' : Hp}

theorem Rep.at (r : Rep K ca ρ G H) {n : Nat} {a : Addr} (h : ρ[n]? = some a) : ∃ o, G[n]? = some o ∧ ObjR K ca ρ H a o := by
  have h1 : n < G.length := by
    rw [← r.len]; exact (List.getElem?_eq_some_iff.mp h).1
  exact ⟨_, List.getElem?_eq_getElem h1, r.obj n a _ h (List.getElem?_eq_getElem h1)⟩
theorem Rep.addr (r : Rep K ca ρ G H) {n : Nat} {o : GO} (h : G[n]? = some o) : ∃ a, ρ[n]? = some a ∧ ObjR K ca ρ H a o := by
  have h1 : n < ρ.length := by
    rw [r.len]; exact (List.getElem?_eq_some_iff.mp h).1
  exact ⟨_, List.getElem?_eq_getElem h1, r.obj n _ o (List.getElem?_eq_getElem h1) h⟩
/-- nothing that never changes has a place -/
theorem Rep.noStat (r : Rep K ca ρ G H) {a : Addr} {u : HO} (h : H a = some u) (s : isStat u = true) : a ∉ ρ := fun hm => by
  obtain ⟨n, hn⟩ := mem_at hm
  obtain ⟨o, _, ho⟩ := r.at hn
  cases o with
  | lst ws => obtain ⟨_, e, _⟩ := ho; rw [h] at e; cases e; cases s
  | dK ws => obtain ⟨_, e, _⟩ := ho; rw [h] at e; cases e; cases s
  | dT ws => obtain ⟨_, e, _⟩ := ho; rw [h] at e; cases e; cases s
  | ins c fs => obtain ⟨_, _, e, _⟩ := ho; rw [h] at e; cases e; cases s
theorem Rep.stay (r : Rep K ca ρ G H) (x : Ext ρ H ρ' H') : Stay H H' := fun a u s h => x.keep _ _ (r.noStat h s) h
theorem RelW.mono {v : V} {w : W} (h : RelW K ca ρ H v w) (hp : ∀ (n : Nat) a, ρ[n]? = some a → ρ'[n]? = some a) (ht : Stay H H') : RelW K ca ρ' H' v w := by
  induction h with
  | non => exact .non
  | bl b => exact .bl b
  | int i => exact .int i
  | str x => exact .str x
  | ty n => exact .ty n
  | cls c => exact .cls c
  | exn c a => exact .exn c a
  | loc e => exact .loc (hp _ _ e)
  | tup hs hl _ ih => exact .tup (ht.sqT hs) hl ih
  | frl hs hl _ ih => exact .frl (ht.fz hs) hl ih
theorem paired_imp {α β : Type} {P Q : α → β → Prop} : ∀ {xs : List α} {ys : List β}, Paired P xs ys → (∀ x y, P x y → Q x y) → Paired Q xs ys
  | _, _, .nil, _ => .nil
  | _, _, .cons r t, f => .cons (f _ _ r) (paired_imp t f)
theorem RelW.ext {v : V} {w : W} (h : RelW K ca ρ H v w) (r : Rep K ca ρ G H) (x : Ext ρ H ρ' H') : RelW K ca ρ' H' v w := h.mono x.pre (r.stay x)
theorem relWs_ext {vs : List V} {ws : List W} (h : RelWs K ca ρ H vs ws) (r : Rep K ca ρ G H) (x : Ext ρ H ρ' H') : RelWs K ca ρ' H' vs ws := paired_imp h fun _ _ q => q.ext r x
theorem RelT.ext {H0 : Hp} {v : V} {t : T} (h : RelT K ca H0 ρ H v t) (r : Rep K ca ρ G H) (x : Ext ρ H ρ' H') : RelT K ca H0 ρ' H' v t := by
  cases t with
  | val w => exact RelW.ext h r x
  | tmp ws =>
    obtain ⟨p, vs, e, hn, h0, hp, hv⟩ := h
    refine ⟨p, vs, e, fun hm => ?_, h0, x.keep _ _ hn hp, relWs_ext hv r x⟩
    rcases x.new p hm with z | z
    · exact hn z
    · rw [hp] at z; cases z
/-- seen from an earlier heap -/
theorem RelT.back {H0 : Hp} {ρ0 : List Addr} {v : V} {t : T} (h : RelT K ca H ρ' H' v t) (a : Ext ρ0 H0 ρ H) (b : Ext ρ H ρ' H') : RelT K ca H0 ρ' H' v t := by
  cases t with
  | val w => exact h
  | tmp ws =>
    obtain ⟨p, vs, e, hn, h0, hp, hv⟩ := h
    refine ⟨p, vs, e, hn, ?_, hp, hv⟩
    cases q : H0 p with
    | none => rfl
    | some o =>
      by_cases hm : p ∈ ρ0
      · obtain ⟨n, hn'⟩ := mem_at hm
        exact absurd (List.mem_of_getElem? (b.pre _ _ (a.pre _ _ hn'))) hn
      · have z := a.keep p o hm q
        rw [h0] at z; cases z
theorem RelS.ext {σ : SSt} {τ : Sl} (h : RelS K ca ρ H σ τ) (r : Rep K ca ρ G H) (x : Ext ρ H ρ' H') : RelS K ca ρ' H' σ τ :=
  ⟨h.1, fun i w e => let ⟨v, e1, q⟩ := h.2 i w e; ⟨v, e1, q.ext r x⟩⟩
theorem RelS.set {σ : SSt} {τ : Sl} (h : RelS K ca ρ H σ τ) (i : Nat) {v : V} {w : W} (q : RelW K ca ρ H v w) : RelS K ca ρ H (σ.set i (some v)) (τ.set i (some w)) := by
  refine ⟨by rw [List.length_set, List.length_set]; exact h.1, fun j u e => ?_⟩
  by_cases hj : i = j
  · subst hj
    by_cases hl : i < τ.length
    · rw [List.getElem?_set_self hl] at e
      cases e
      exact ⟨v, List.getElem?_set_self (by rw [h.1]; exact hl), q⟩
    · rw [List.getElem?_eq_none (by rw [List.length_set]; omega)] at e
      cases e
  · rw [List.getElem?_set_ne hj] at e ⊢
    exact h.2 j u e
theorem RelS.unset {σ : SSt} {τ : Sl} (h : RelS K ca ρ H σ τ) (i : Nat) : RelS K ca ρ H (σ.set i none) (τ.set i none) := by
  refine ⟨by rw [List.length_set, List.length_set]; exact h.1, fun j u e => ?_⟩
  by_cases hj : i = j
  · subst hj
    by_cases hl : i < τ.length
    · rw [List.getElem?_set_self hl] at e; cases e
    · rw [List.getElem?_eq_none (by rw [List.length_set]; omega)] at e
      cases e
  · rw [List.getElem?_set_ne hj] at e ⊢
    exact h.2 j u e
theorem relWs_get : ∀ {vs : List V} {ws : List W} {i : Nat} {w : W}, RelWs K ca ρ H vs ws → ws[i]? = some w → ∃ v, vs[i]? = some v ∧ RelW K ca ρ H v w
  | _, _, _, _, .nil, e => by simp at e
  | _, _, 0, _, .cons q _, e => by simp at e; subst e; exact ⟨_, rfl, q⟩
  | _, _, i + 1, w, .cons _ t, e => by
    obtain ⟨v, h1, h2⟩ := relWs_get (i := i) (w := w) t (by simpa using e)
    exact ⟨v, by simpa using h1, h2⟩
theorem relWs_of : ∀ {vs : List V} {ws : List W}, vs.length = ws.length → (∀ (i : Nat) v w, vs[i]? = some v → ws[i]? = some w → RelW K ca ρ H v w) → RelWs K ca ρ H vs ws
  | [], [], _, _ => .nil
  | [], _ :: _, h, _ => by simp at h
  | _ :: _, [], h, _ => by simp at h
  | v :: vs, w :: ws, h, f => .cons (f 0 v w rfl rfl) (relWs_of (by simpa using h) fun i x y e1 e2 => f (i + 1) x y (by simpa using e1) (by simpa using e2))
theorem paired_get {α β : Type} {P : α → β → Prop} : ∀ {xs : List α} {ys : List β}, Paired P xs ys → ∀ (i : Nat) x y, xs[i]? = some x → ys[i]? = some y → P x y
  | _, _, .nil, _, _, _, e, _ => by simp at e
  | _, _, .cons q _, 0, _, _, e, f => by simp at e f; subst e; subst f; exact q
  | _, _, .cons _ t, i + 1, x, y, e, f => paired_get t i x y (by simpa using e) (by simpa using f)
theorem RelW.tup' {a : Addr} {vs : List V} {ws : List W} (hs : SqT K H a vs) (h : RelWs K ca ρ H vs ws) : RelW K ca ρ H (.ref a) (.tup ws) :=
  .tup hs h.length fun i v w e1 e2 => paired_get h i v w e1 e2
theorem relW_frl {v : V} {ws : List W} (h : RelW K ca ρ H v (.frl ws)) : ∃ a vs, v = .ref a ∧ FzL K H a vs ∧ RelWs K ca ρ H vs ws := by
  cases h with
  | frl hs hl f => exact ⟨_, _, rfl, hs, relWs_of hl f⟩
theorem relW_tup {v : V} {ws : List W} (h : RelW K ca ρ H v (.tup ws)) : ∃ a vs, v = .ref a ∧ SqT K H a vs ∧ RelWs K ca ρ H vs ws := by
  cases h with
  | tup hs hl f => exact ⟨_, _, rfl, hs, relWs_of hl f⟩

theorem objR_mono {a : Addr} {o : GO} (h : ObjR K ca ρ H a o) (hp : ∀ (n : Nat) a, ρ[n]? = some a → ρ'[n]? = some a) (ht : Stay H H') (ha : H' a = H a) : ObjR K ca ρ' H' a o := by
  cases o with
  | lst ws => obtain ⟨vs, e, q⟩ := h; exact ⟨vs, ha.trans e, paired_imp q fun _ _ z => z.mono hp ht⟩
  | dK ws => obtain ⟨vs, e, q⟩ := h; exact ⟨vs, ha.trans e, paired_imp q fun _ _ z => ⟨z.1, z.2.mono hp ht⟩⟩
  | dT ws => obtain ⟨vs, e, q⟩ := h; exact ⟨vs, ha.trans e, paired_imp q fun _ _ z => ⟨z.1, z.2.mono hp ht⟩⟩
  | ins c fs => obtain ⟨dx, vs, e, q⟩ := h; exact ⟨dx, vs, ha.trans e, paired_imp q fun _ _ z => ⟨z.1, z.2.mono hp ht⟩⟩

/-- an object that is not in G was laid -/
theorem Ext.laid {p : Addr} {o : HO} (hp : H p = none) : Ext ρ H ρ (upd H p o) :=
  ⟨fun _ _ h => h, fun _ h => .inl h, fun b u _ e => by rw [upd_ne (ne_of_none e hp)]; exact e⟩
theorem Rep.fresh (r : Rep K ca ρ G H) {p : Addr} (hp : H p = none) : p ∉ ρ := fun hm => by
  obtain ⟨n, hn⟩ := mem_at hm
  obtain ⟨o, _, ho⟩ := r.at hn
  cases o with
  | lst ws => obtain ⟨_, e, _⟩ := ho; rw [hp] at e; cases e
  | dK ws => obtain ⟨_, e, _⟩ := ho; rw [hp] at e; cases e
  | dT ws => obtain ⟨_, e, _⟩ := ho; rw [hp] at e; cases e
  | ins c fs => obtain ⟨_, _, e, _⟩ := ho; rw [hp] at e; cases e
theorem Rep.laid (r : Rep K ca ρ G H) {p : Addr} {o : HO} (hp : H p = none) : Rep K ca ρ G (upd H p o) := by
  refine ⟨r.len, r.nd, fun n a u e1 e2 => objR_mono (r.obj n a u e1 e2) (fun _ _ h => h) (Stay.laid hp) (upd_ne fun e => ?_)⟩
  subst e
  exact r.fresh hp (List.mem_of_getElem? e1)
/-- a list that nobody held gets a place -/
theorem Rep.take (r : Rep K ca ρ G H) {p : Addr} {vs : List V} {ws : List W} (hn : p ∉ ρ) (hp : H p = some (.lst vs)) (q : RelWs K ca ρ H vs ws) : Rep K ca (ρ ++ [p]) (G ++ [.lst ws]) H := by
  have pre : ∀ (n : Nat) a, ρ[n]? = some a → (ρ ++ [p])[n]? = some a := fun n a e => by
    rw [List.getElem?_append_left (List.getElem?_eq_some_iff.mp e).1]; exact e
  refine ⟨by simp [r.len], ?_, fun n a o e1 e2 => ?_⟩
  · rw [List.nodup_append]
    refine ⟨r.nd, by simp, fun a ha b hb e => ?_⟩
    have : b = p := by simpa using hb
    exact hn (by rw [← this, ← e]; exact ha)
  · by_cases hl : n < ρ.length
    · rw [List.getElem?_append_left hl] at e1
      rw [List.getElem?_append_left (by rw [← r.len]; exact hl)] at e2
      exact objR_mono (r.obj n a o e1 e2) pre Stay.refl rfl
    · have hl2 : ρ.length ≤ n := Nat.le_of_not_lt hl
      rw [List.getElem?_append_right hl2] at e1
      rw [List.getElem?_append_right (by rw [← r.len]; exact hl2), ← r.len] at e2
      cases h0 : n - ρ.length with
      | zero =>
        rw [h0] at e1 e2
        simp at e1 e2
        subst e1; subst e2
        exact ⟨vs, hp, paired_imp q fun _ _ z => z.mono pre Stay.refl⟩
      | succ k =>
        rw [h0] at e1
        simp at e1
theorem Ext.take {H0 : Hp} {ρ0 : List Addr} {p : Addr} (x : Ext ρ0 H0 ρ H) (h0 : H0 p = none) : Ext ρ0 H0 (ρ ++ [p]) H :=
  ⟨fun n a e => by
    have e' := x.pre n a e
    rw [List.getElem?_append_left (List.getElem?_eq_some_iff.mp e').1]; exact e', fun a h => by
    rcases List.mem_append.mp h with h | h
    · exact x.new a h
    · have e : a = p := by simpa using h
      exact .inr (e ▸ h0), x.keep⟩
end
end Sy
set_option Elab.async false
set_option linter.all false
set_option maxRecDepth 100000
set_option maxHeartbeats 4000000
namespace Sy
open PySem PySem.Spec PyProof.Rows L2

/-! what is asked behind a computation -/
section
variable (K : PySem.W.Frag) (ca : Nat → Addr)
def Post {α : Type} (Wx : WX) (σ : SSt) (ρ : List Addr) (H : Hp) (P : α → GH → List Addr → Hp → Prop) : R α → Prop
  | .ok a G' => ∀ ρ' H', Ext ρ H ρ' H' → Rep K ca ρ' G' H' → P a G' ρ' H'
  | .ex c fs G' => ∀ ρ' H' d, Ext ρ H ρ' H' → Rep K ca ρ' G' H' → ExF K ca ρ' H' d fs → Wx (.ref (ca c)) d σ H'
  | .bad => False
end
section
variable {K : PySem.W.Frag} {ca : Nat → Addr} {Wx : WX} {σ : SSt} {ρ ρ1 : List Addr} {H H1 : Hp} {α β : Type} {P Q : α → GH → List Addr → Hp → Prop}
theorem Post.imp {r : R α} (h : Post K ca Wx σ ρ H P r) (f : ∀ a G' ρ' H', Ext ρ H ρ' H' → Rep K ca ρ' G' H' → P a G' ρ' H' → Q a G' ρ' H') : Post K ca Wx σ ρ H Q r := by
  cases r with
  | ok a G' => exact fun ρ' H' x r => f a G' ρ' H' x r (h ρ' H' x r)
  | ex c fs G' => exact h
  | bad => exact h
/-- seen from a later state -/
theorem Post.later {r : R α} (h : Post K ca Wx σ ρ H P r) (x : Ext ρ H ρ1 H1) : Post K ca Wx σ ρ1 H1 P r := by
  cases r with
  | ok a G' => exact fun ρ' H' y r => h ρ' H' (x.trans y) r
  | ex c fs G' => exact fun ρ' H' d y r e => h ρ' H' d (x.trans y) r e
  | bad => exact h
theorem Post.bind {r : R α} {k : α → GH → R β} {P : β → GH → List Addr → Hp → Prop} (h : Post K ca Wx σ ρ H P (r.bind k)) :
    Post K ca Wx σ ρ H (fun a G1 ρ1 H1 => Post K ca Wx σ ρ1 H1 P (k a G1)) r := by
  cases r with
  | ok a G' => exact fun ρ' H' x _ => Post.later h x
  | ex c fs G' => exact h
  | bad => exact h
/-- .. with where it is seen from -/
theorem Post.bindX {r : R α} {k : α → GH → R β} {P : β → GH → List Addr → Hp → Prop} (h : Post K ca Wx σ ρ H P (r.bind k)) :
    Post K ca Wx σ ρ H (fun a G1 ρ1 H1 => Ext ρ H ρ1 H1 ∧ Post K ca Wx σ ρ1 H1 P (k a G1)) r :=
  h.bind.imp fun _ _ _ _ x _ q => ⟨x, q⟩
end

abbrev M (α : Type) := Sl → GH → R α
section
variable (K : PySem.W.Frag) (ca : Nat → Addr)
/-- an expression's, a test's, an argument list's reading by a computation -/
def tE (Wx : WX) (m : M T) : TE := fun σ H Q => ∃ ρ G τ, Rep K ca ρ G H ∧ RelS K ca ρ H σ τ ∧ Post K ca Wx σ ρ H (fun t _ ρ' H' => ∀ v, RelT K ca H ρ' H' v t → Q v H') (m τ G)
def tT (Wx : WX) (m : M Bool) : TT := fun σ H Q => ∃ ρ G τ, Rep K ca ρ G H ∧ RelS K ca ρ H σ τ ∧ Post K ca Wx σ ρ H (fun b _ _ H' => Q b H') (m τ G)
def tA (Wx : WX) (m : M (List W)) : TA := fun σ H Q => ∃ ρ G τ, Rep K ca ρ G H ∧ RelS K ca ρ H σ τ ∧ Post K ca Wx σ ρ H (fun ws _ ρ' H' => ∀ vs, RelWs K ca ρ' H' vs ws → Q vs H') (m τ G)
end

/-- an outcome of statements -/
inductive RS where
  | nx (τ : Sl) (G : GH) | rt (w : W) (G : GH) | bk (τ : Sl) (G : GH) | ct (τ : Sl) (G : GH) | ex (c : Nat) (fs : List (Str × W)) (τ : Sl) (G : GH) | bad
abbrev MS := Sl → GH → RS
section
variable (K : PySem.W.Frag) (ca : Nat → Addr)
def PostS (Wx : WX) (D : Ends) (ρ : List Addr) (H : Hp) : RS → Prop
  | .nx τ G' => ∀ ρ' H' σ', Ext ρ H ρ' H' → Rep K ca ρ' G' H' → RelS K ca ρ' H' σ' τ → D.nx σ' H'
  | .bk τ G' => ∀ ρ' H' σ', Ext ρ H ρ' H' → Rep K ca ρ' G' H' → RelS K ca ρ' H' σ' τ → D.bk σ' H'
  | .ct τ G' => ∀ ρ' H' σ', Ext ρ H ρ' H' → Rep K ca ρ' G' H' → RelS K ca ρ' H' σ' τ → D.ct σ' H'
  | .rt w G' => ∀ ρ' H' v, Ext ρ H ρ' H' → Rep K ca ρ' G' H' → RelW K ca ρ' H' v w → D.rt v H'
  | .ex c fs τ G' => ∀ ρ' H' d σ', Ext ρ H ρ' H' → Rep K ca ρ' G' H' → RelS K ca ρ' H' σ' τ → ExF K ca ρ' H' d fs → Wx (.ref (ca c)) d σ' H'
  | .bad => False
def tS (Wx : WX) (m : MS) : TS := fun D σ H => ∃ ρ G τ, Rep K ca ρ G H ∧ RelS K ca ρ H σ τ ∧ PostS K ca Wx D ρ H (m τ G)
end
theorem PostS.later {K : PySem.W.Frag} {ca : Nat → Addr} {Wx : WX} {D : Ends} {ρ ρ1 : List Addr} {H H1 : Hp} {r : RS} (h : PostS K ca Wx D ρ H r) (x : Ext ρ H ρ1 H1) : PostS K ca Wx D ρ1 H1 r := by
  cases r with
  | nx τ G' => exact fun ρ' H' s y r => h ρ' H' s (x.trans y) r
  | bk τ G' => exact fun ρ' H' s y r => h ρ' H' s (x.trans y) r
  | ct τ G' => exact fun ρ' H' s y r => h ρ' H' s (x.trans y) r
  | rt w G' => exact fun ρ' H' s y r => h ρ' H' s (x.trans y) r
  | ex c fs τ G' => exact fun ρ' H' d s y r => h ρ' H' d s (x.trans y) r
  | bad => exact h

/-! weaker readings -/
theorem PE.weak {X : Cx} {e : Expr} {t t' : TE} (h : PE X e t) (f : ∀ σ H Q, t' σ H Q → t σ H Q) : PE X e t' := ⟨fun pins s σ H Q I q => h.run pins s σ H Q I (f σ H Q q)⟩
theorem PT.weak {X : Cx} {e : Expr} {t t' : TT} (h : PT X e t) (f : ∀ σ H Q, t' σ H Q → t σ H Q) : PT X e t' := ⟨fun pins s σ H Q I q => h.run pins s σ H Q I (f σ H Q q)⟩
theorem PA.weak {X : Cx} {e : List Expr} {t t' : TA} (h : PA X e t) (f : ∀ σ H Q, t' σ H Q → t σ H Q) : PA X e t' := ⟨fun pos pins s σ H Q I q => h.run pos pins s σ H Q I (f σ H Q q)⟩
theorem PS.weak {X : Cx} {e : Stmt} {t t' : TS} (h : PS X e t) (f : ∀ D σ H, t' D σ H → t D σ H) : PS X e t' := ⟨fun pins s σ H D I q => h.run pins s σ H D I (f D σ H q)⟩
theorem PSs.weak {X : Cx} {e : List Stmt} {t t' : TS} (h : PSs X e t) (f : ∀ D σ H, t' D σ H → t D σ H) : PSs X e t' := ⟨fun pins s σ H D I q => h.run pins s σ H D I (f D σ H q)⟩

/-! computations -/
def mVar (i : Nat) : M T := fun τ G => match τ[i]? with | some (some w) => .ok (.val w) G | _ => .bad
def mC (w : W) : M T := fun _ G => .ok (.val w) G
def mBin (f : T → T → GH → R T) (a b : M T) : M T := fun τ G => (a τ G).bind fun x G1 => (b τ G1).bind fun y G2 => f x y G2
def mUn (f : T → GH → R T) (a : M T) : M T := fun τ G => (a τ G).bind f
def force : T → GH → R W
  | .val w, G => .ok w G
  | .tmp ws, G => .ok (.loc G.length) (G ++ [.lst ws])
def mF (a : M T) : M W := fun τ G => (a τ G).bind force
def mNil : M (List W) := fun _ G => .ok [] G
def mCons (a : M T) (r : M (List W)) : M (List W) := fun τ G => ((a τ G).bind force).bind fun w G1 => (r τ G1).bind fun ws G2 => .ok (w :: ws) G2
def mLst (a : M (List W)) : M T := fun τ G => (a τ G).bind fun ws G1 => if ws.length ≤ 16777216 then .ok (.tmp ws) G1 else .bad
def mTup (a : M (List W)) : M T := fun τ G => (a τ G).bind fun ws G1 => if ws.length ≤ 16777216 then .ok (.val (.tup ws)) G1 else .bad
/-- a value that is True or False -/
def asB : T → GH → R Bool
  | .val (.bl b), G => .ok b G
  | _, _ => .bad
def mB (a : M T) : M Bool := fun τ G => (a τ G).bind asB
def mOfB (a : M Bool) : M T := fun τ G => (a τ G).bind fun b G1 => .ok (.val (.bl b)) G1
def mAnd (a b : M Bool) : M Bool := fun τ G => (a τ G).bind fun x G1 => if x then b τ G1 else .ok false G1
def mOr (a b : M Bool) : M Bool := fun τ G => (a τ G).bind fun x G1 => if x then .ok true G1 else b τ G1
def mNot (a : M Bool) : M Bool := fun τ G => (a τ G).bind fun x G1 => .ok (!x) G1
def mIf (c : M Bool) (a b : M T) : M T := fun τ G => (c τ G).bind fun x G1 => if x then a τ G1 else b τ G1

section
variable {X : Cx} {ca : Nat → Addr} {Wx : WX} {σ : SSt} {H : Hp} {ρ : List Addr} {G : GH} {τ : Sl}
/-- the step that all rules take -/
theorem tE.start {m : M T} {Q : VK} (r : Rep X.K ca ρ G H) (s : RelS X.K ca ρ H σ τ) (h : Post X.K ca Wx σ ρ H (fun t _ ρ' H' => ∀ v, RelT X.K ca H ρ' H' v t → Q v H') (m τ G)) : tE X.K ca Wx m σ H Q := ⟨ρ, G, τ, r, s, h⟩
theorem tE.seq {α : Type} {m : M T} {k : T → GH → R α} {P : α → GH → List Addr → Hp → Prop} {Q : VK} (r : Rep X.K ca ρ G H) (s : RelS X.K ca ρ H σ τ) (h : Post X.K ca Wx σ ρ H P ((m τ G).bind k))
    (hk : ∀ t G1 ρ1 H1 v, Ext ρ H ρ1 H1 → Rep X.K ca ρ1 G1 H1 → RelS X.K ca ρ1 H1 σ τ → RelT X.K ca H ρ1 H1 v t → Post X.K ca Wx σ ρ1 H1 P (k t G1) → Q v H1) : tE X.K ca Wx m σ H Q :=
  ⟨ρ, G, τ, r, s, h.bind.imp fun t G1 ρ1 H1 x r1 q v rv => hk t G1 ρ1 H1 v x r1 (s.ext r x) rv q⟩
theorem s_var {i : Nat} {x : Str} {pos : Pos} (hN : X.N[i]? = some x) (hv : Vis X.env.scope x) (hd : (x == ("__debug__" : Str)) = false := by decide) (hcd : (x == ("__classdict__" : Str)) = false := by decide) : PE X (.Name x pos) (tE X.K ca Wx (mVar i)) := by
  refine PE.weak (pe_var hN hv hd hcd) fun σ H Q ⟨ρ, G, τ, r, s, h⟩ => ?_
  unfold mVar at h
  cases e : τ[i]? with
  | none => rw [e] at h; exact h.elim
  | some o =>
    cases o with
    | none => rw [e] at h; exact h.elim
    | some w =>
      rw [e] at h
      obtain ⟨v, e1, q⟩ := s.2 i w e
      exact ⟨v, e1, h ρ H .refl r v q⟩
theorem s_const {e : Expr} {v : V} {w : W} (h : PE X e (tC v)) (hw : ∀ ρ H, RelW X.K ca ρ H v w) : PE X e (tE X.K ca Wx (mC w)) :=
  PE.weak h fun σ H Q ⟨ρ, G, τ, r, s, q⟩ => q ρ H .refl r v (hw ρ H)
theorem s_int {i j pos} : PE X (.Constant (.int i) j pos) (tE X.K ca Wx (mC (.int i))) := s_const pe_int fun _ _ => .int i
theorem s_bl {i j pos} : PE X (.Constant (.bool i) j pos) (tE X.K ca Wx (mC (.bl i))) := s_const pe_bl fun _ _ => .bl i
theorem s_non {j pos} : PE X (.Constant .none j pos) (tE X.K ca Wx (mC .non)) := s_const pe_non fun _ _ => .non
theorem s_str {i j pos} : PE X (.Constant (.str i) j pos) (tE X.K ca Wx (mC (.str i))) := s_const pe_str fun _ _ => .str i

/-- f says what r asks -/
def Says2 (X : Cx) (ca : Nat → Addr) (r : R2) (f : T → T → GH → R T) : Prop :=
  ∀ (Wx : WX) (σ : SSt) (ρ : List Addr) (G : GH) (H H0 : Hp) (x y : V) (s t : T) (Q : VK), Rep X.K ca ρ G H → RelT X.K ca H0 ρ H x s → RelT X.K ca H0 ρ H y t →
    Post X.K ca Wx σ ρ H (fun t _ ρ' H' => ∀ v, RelT X.K ca H ρ' H' v t → Q v H') (f s t G) → r x y H Q
theorem says_in {r : R2} {f : T → T → GH → R T} (hs : Says2 X ca r f) {ma mb : M T} {Q : VK} (h : tE X.K ca Wx (mBin f ma mb) σ H Q) :
    tE X.K ca Wx ma σ H fun x H1 => tE X.K ca Wx mb σ H1 fun y H2 => r x y H2 Q := by
  obtain ⟨ρ, G, τ, r0, s0, h⟩ := h
  refine tE.seq r0 s0 h fun t1 G1 ρ1 H1 v1 x1 r1 s1 q1 h1 => ?_
  refine tE.seq r1 s1 h1 fun t2 G2 ρ2 H2 v2 x2 r2 s2 q2 h2 => ?_
  refine hs Wx σ ρ2 G2 H2 H v1 v2 t1 t2 Q r2 (q1.ext r1 x2) (q2.back x1 x2) (h2.imp fun t G' ρ' H' x' _ q v rv => q v (rv.back (x1.trans x2) x'))
theorem s_bin {a b : Expr} {op : Operator} {pos : Pos} {r : R2} {f : T → T → GH → R T} {ma mb : M T} (ho : OpR X (binaryOp op) r) (hs : Says2 X ca r f) (ha : PE X a (tE X.K ca Wx ma)) (hb : PE X b (tE X.K ca Wx mb)) :
    PE X (.BinOp a op b pos) (tE X.K ca Wx (mBin f ma mb)) := PE.weak (pe_op ho ha hb) fun _ _ _ h => says_in hs h
theorem s_cmp {a b : Expr} {op : CmpOp} {pos : Pos} {r : R2} {f : T → T → GH → R T} {ma mb : M T} (ho : OpR X (compareOp op) r) (hs : Says2 X ca r f) (ha : PE X a (tE X.K ca Wx ma)) (hb : PE X b (tE X.K ca Wx mb)) (hm : behindInMarks op b = false) :
    PE X (.Compare a [op] [b] pos) (tE X.K ca Wx (mBin f ma mb)) := PE.weak (pe_cmpR ho ha hb hm) fun _ _ _ h => says_in hs h

/-! tests -/
theorem tTest_of {m : M T} {Q : Bool → Hp → Prop} (h : tT X.K ca Wx (mB m) σ H Q) : tTest (tE X.K ca Wx m) σ H Q := by
  obtain ⟨ρ, G, τ, r0, s0, h⟩ := h
  refine tE.seq r0 s0 h fun t1 G1 ρ1 H1 v1 x1 r1 s1 q1 h1 => ?_
  cases t1 with
  | tmp ws => exact h1.elim
  | val w =>
    cases w with
    | bl b =>
      cases q1
      exact ⟨b, rfl, h1 ρ1 H1 .refl r1⟩
    | _ => exact h1.elim
theorem s_testCmp {a b : Expr} {op : CmpOp} {pos : Pos} {r : R2} {f : T → T → GH → R T} {ma mb : M T} (ho : OpR X (compareOp op) r) (hs : Says2 X ca r f) (ha : PE X a (tE X.K ca Wx ma)) (hb : PE X b (tE X.K ca Wx mb)) (hm : behindInMarks op b = false) :
    PT X (.Compare a [op] [b] pos) (tT X.K ca Wx (mB (mBin f ma mb))) := by
  refine PT.weak (pt_cmpR ho ha hb hm) fun σ H Q h => ?_
  obtain ⟨ρ, G, τ, r0, s0, h⟩ := h
  have h' := tTest_of ⟨ρ, G, τ, r0, s0, h⟩
  exact says_in hs h'
/-- an expression that is True or False, as a test -/
theorem s_test {e : Expr} {m : M T} (h : PE X e (tE X.K ca Wx m)) (he : ∀ whole, isTrue e X.env whole = (do let v ← whole; standAt e.pos; holding [v] (truthy v)) := by intro _; rfl) : PT X e (tT X.K ca Wx (mB m)) := by
  refine PT.weak (pt_val h he) fun σ H Q h => ?_
  exact tTest_of h
theorem tT.seq {α : Type} {m : M Bool} {k : Bool → GH → R α} {P : α → GH → List Addr → Hp → Prop} {Q : Bool → Hp → Prop} (r : Rep X.K ca ρ G H) (s : RelS X.K ca ρ H σ τ) (h : Post X.K ca Wx σ ρ H P ((m τ G).bind k))
    (hk : ∀ b G1 ρ1 H1, Ext ρ H ρ1 H1 → Rep X.K ca ρ1 G1 H1 → RelS X.K ca ρ1 H1 σ τ → Post X.K ca Wx σ ρ1 H1 P (k b G1) → Q b H1) : tT X.K ca Wx m σ H Q :=
  ⟨ρ, G, τ, r, s, h.bind.imp fun t G1 ρ1 H1 x r1 q => hk t G1 ρ1 H1 x r1 (s.ext r x) q⟩
section
variable {a b : Expr} {rest : List Expr} {pos : Pos} {ma mb : M Bool}
theorem w_and1 (ha : PT X a (tT X.K ca Wx ma)) : PW X (.BoolOp .And [a] pos) (tT X.K ca Wx ma) := pw_and1 ha
theorem w_or1 (ha : PT X a (tT X.K ca Wx ma)) : PW X (.BoolOp .Or [a] pos) (tT X.K ca Wx ma) := pw_or1 ha
theorem PW.weak {X : Cx} {e : Expr} {t t' : TT} (h : PW X e t) (f : ∀ σ H Q, t' σ H Q → t σ H Q) : PW X e t' := ⟨fun wh pins s σ H Q I q => h.run wh pins s σ H Q I (f σ H Q q)⟩
theorem w_and (ha : PT X a (tT X.K ca Wx ma)) (hb : PW X (.BoolOp .And (b :: rest) pos) (tT X.K ca Wx mb)) : PW X (.BoolOp .And (a :: b :: rest) pos) (tT X.K ca Wx (mAnd ma mb)) := by
  refine PW.weak (pw_and ha hb) fun σ H Q ⟨ρ, G, τ, r0, s0, h⟩ => ?_
  refine tT.seq r0 s0 h fun c G1 ρ1 H1 x1 r1 s1 h1 => ?_
  cases c with
  | true => exact ⟨ρ1, G1, τ, r1, s1, h1⟩
  | false => exact h1 ρ1 H1 .refl r1
theorem w_or (ha : PT X a (tT X.K ca Wx ma)) (hb : PW X (.BoolOp .Or (b :: rest) pos) (tT X.K ca Wx mb)) : PW X (.BoolOp .Or (a :: b :: rest) pos) (tT X.K ca Wx (mOr ma mb)) := by
  refine PW.weak (pw_or ha hb) fun σ H Q ⟨ρ, G, τ, r0, s0, h⟩ => ?_
  refine tT.seq r0 s0 h fun c G1 ρ1 H1 x1 r1 s1 h1 => ?_
  cases c with
  | true => exact h1 ρ1 H1 .refl r1
  | false => exact ⟨ρ1, G1, τ, r1, s1, h1⟩
theorem s_tnot (ha : PT X a (tT X.K ca Wx ma)) : PT X (.UnaryOp .Not a pos) (tT X.K ca Wx (mNot ma)) := by
  refine PT.weak (pt_not ha) fun σ H Q ⟨ρ, G, τ, r0, s0, h⟩ => ?_
  exact tT.seq r0 s0 h fun c G1 ρ1 H1 x1 r1 s1 h1 => h1 ρ1 H1 .refl r1
end
/-! and, or, not as values that are True or False -/
section
variable {a b : Expr} {rest : List Expr} {pos : Pos} {ma mb : M T}
theorem v_one {op} (ha : PE X a (tE X.K ca Wx ma)) : PE X (.BoolOp op [a] pos) (tE X.K ca Wx ma) := pe_one ha
def mAndV (a b : M T) : M T := fun τ G => (a τ G).bind fun x G1 => (asB x G1).bind fun c G2 => if c then b τ G2 else .ok (.val (.bl false)) G2
def mOrV (a b : M T) : M T := fun τ G => (a τ G).bind fun x G1 => (asB x G1).bind fun c G2 => if c then .ok (.val (.bl true)) G2 else b τ G2
def mNotV (a : M T) : M T := fun τ G => (a τ G).bind fun x G1 => (asB x G1).bind fun c G2 => .ok (.val (.bl (!c))) G2
theorem asB_of {α : Type} {t1 : T} {G1 : GH} {ρ1 : List Addr} {H0 H1 : Hp} {v1 : V} {P : α → GH → List Addr → Hp → Prop} {k : Bool → GH → R α} (q1 : RelT X.K ca H0 ρ1 H1 v1 t1) (h : Post X.K ca Wx σ ρ1 H1 P ((asB t1 G1).bind k)) :
    ∃ c, v1 = .bl c ∧ Post X.K ca Wx σ ρ1 H1 P (k c G1) := by
  cases t1 with
  | tmp ws => exact h.elim
  | val w =>
    cases w with
    | bl b =>
      cases q1
      exact ⟨b, rfl, h⟩
    | _ => exact h.elim
theorem v_and (ha : PE X a (tE X.K ca Wx ma)) (hb : PE X (.BoolOp .And (b :: rest) pos) (tE X.K ca Wx mb)) : PE X (.BoolOp .And (a :: b :: rest) pos) (tE X.K ca Wx (mAndV ma mb)) := by
  refine PE.weak (pe_and ha hb) fun σ H Q ⟨ρ, G, τ, r0, s0, h⟩ => ?_
  refine tE.seq r0 s0 h fun t1 G1 ρ1 H1 v1 x1 r1 s1 q1 h1 => ?_
  obtain ⟨c, e, h2⟩ := asB_of q1 h1
  refine ⟨c, e, ?_⟩
  cases c with
  | true => exact ⟨ρ1, G1, τ, r1, s1, Post.imp h2 fun t _ ρ' H' x' _ q v rv => q v (rv.back x1 x')⟩
  | false => exact h2 ρ1 H1 .refl r1 _ (.bl false)
theorem v_or (ha : PE X a (tE X.K ca Wx ma)) (hb : PE X (.BoolOp .Or (b :: rest) pos) (tE X.K ca Wx mb)) : PE X (.BoolOp .Or (a :: b :: rest) pos) (tE X.K ca Wx (mOrV ma mb)) := by
  refine PE.weak (pe_or ha hb) fun σ H Q ⟨ρ, G, τ, r0, s0, h⟩ => ?_
  refine tE.seq r0 s0 h fun t1 G1 ρ1 H1 v1 x1 r1 s1 q1 h1 => ?_
  obtain ⟨c, e, h2⟩ := asB_of q1 h1
  refine ⟨c, e, ?_⟩
  cases c with
  | true => exact h2 ρ1 H1 .refl r1 _ (.bl true)
  | false => exact ⟨ρ1, G1, τ, r1, s1, Post.imp h2 fun t _ ρ' H' x' _ q v rv => q v (rv.back x1 x')⟩
theorem v_not (ha : PE X a (tE X.K ca Wx ma)) : PE X (.UnaryOp .Not a pos) (tE X.K ca Wx (mNotV ma)) := by
  refine PE.weak (pe_not ha) fun σ H Q ⟨ρ, G, τ, r0, s0, h⟩ => ?_
  refine tE.seq r0 s0 h fun t1 G1 ρ1 H1 v1 x1 r1 s1 q1 h1 => ?_
  obtain ⟨c, e, h2⟩ := asB_of q1 h1
  exact ⟨c, e, h2 ρ1 H1 .refl r1 _ (.bl _)⟩
theorem s_ife {c : Expr} {mc : M Bool} (hc : PT X c (tT X.K ca Wx mc)) (ha : PE X a (tE X.K ca Wx ma)) (hb : PE X b (tE X.K ca Wx mb)) : PE X (.IfExp c a b pos) (tE X.K ca Wx (mIf mc ma mb)) := by
  refine PE.weak (pe_ifExp hc ha hb) fun σ H Q ⟨ρ, G, τ, r0, s0, h⟩ => ?_
  refine tT.seq r0 s0 h fun c G1 ρ1 H1 x1 r1 s1 h1 => ?_
  cases c with
  | true => exact ⟨ρ1, G1, τ, r1, s1, Post.imp h1 fun t _ ρ' H' x' _ q v rv => q v (rv.back x1 x')⟩
  | false => exact ⟨ρ1, G1, τ, r1, s1, Post.imp h1 fun t _ ρ' H' x' _ q v rv => q v (rv.back x1 x')⟩
end

/-! argument lists, displays -/
theorem force_ok {α : Type} {t1 : T} {G1 : GH} {ρ0 ρ1 : List Addr} {H0 H1 : Hp} {v1 : V} {P : α → GH → List Addr → Hp → Prop} {k : W → GH → R α} (x : Ext ρ0 H0 ρ1 H1) (r1 : Rep X.K ca ρ1 G1 H1) (q1 : RelT X.K ca H0 ρ1 H1 v1 t1)
    (h : Post X.K ca Wx σ ρ0 H0 P ((force t1 G1).bind k)) :
    ∃ w G2 ρ2, Ext ρ0 H0 ρ2 H1 ∧ Rep X.K ca ρ2 G2 H1 ∧ RelW X.K ca ρ2 H1 v1 w ∧ (∀ (n : Nat) a, ρ1[n]? = some a → ρ2[n]? = some a) ∧ Post X.K ca Wx σ ρ2 H1 P (k w G2) := by
  cases t1 with
  | val w => exact ⟨w, G1, ρ1, x, r1, q1, fun _ _ e => e, Post.later h x⟩
  | tmp ws =>
    obtain ⟨p, vs, e, hn, h0, hp, hv⟩ := q1
    subst e
    have y := x.take h0
    refine ⟨.loc G1.length, G1 ++ [.lst ws], ρ1 ++ [p], y, r1.take hn hp hv, .loc ?_, fun n a e => ?_, Post.later h y⟩
    · rw [← r1.len]
      simp
    · rw [List.getElem?_append_left (List.getElem?_eq_some_iff.mp e).1]; exact e
theorem RelS.pre {K : PySem.W.Frag} {ρ ρ' : List Addr} (h : RelS K ca ρ H σ τ) (hp : ∀ (n : Nat) a, ρ[n]? = some a → ρ'[n]? = some a) : RelS K ca ρ' H σ τ :=
  ⟨h.1, fun i w e => let ⟨v, e1, q⟩ := h.2 i w e; ⟨v, e1, q.mono hp Stay.refl⟩⟩
/-- an expression, then forced: as all rules take it -/
theorem tE.seqF {α : Type} {m : M T} {k : W → GH → R α} {P : α → GH → List Addr → Hp → Prop} {Q : VK} (r : Rep X.K ca ρ G H) (s : RelS X.K ca ρ H σ τ) (h : Post X.K ca Wx σ ρ H P (((m τ G).bind force).bind k))
    (hk : ∀ w G1 ρ1 H1 v, Ext ρ H ρ1 H1 → Rep X.K ca ρ1 G1 H1 → RelS X.K ca ρ1 H1 σ τ → RelW X.K ca ρ1 H1 v w → Post X.K ca Wx σ ρ1 H1 P (k w G1) → Q v H1) : tE X.K ca Wx m σ H Q := by
  have h2 : Post X.K ca Wx σ ρ H P ((m τ G).bind fun t G1 => (force t G1).bind k) := by
    cases e : m τ G with
    | ok t G1 => rw [e] at h; exact h
    | ex c fs G1 => rw [e] at h; exact h
    | bad => rw [e] at h; exact h
  refine ⟨ρ, G, τ, r, s, ?_⟩
  cases e : m τ G with
  | ok t G1 =>
    rw [e] at h2
    intro ρ1 H1 x1 r1 v q1
    obtain ⟨w, G2, ρ2, y, r2, q2, pre, h3⟩ := force_ok x1 r1 q1 h2
    exact hk w G2 ρ2 H1 v y r2 ((s.ext r x1).pre pre) q2 h3
  | ex c fs G1 => rw [e] at h2; exact h2
  | bad => rw [e] at h2; exact h2
theorem a_nil : PA X [] (tA X.K ca Wx mNil) := PA.weak pa_nil fun σ H Q ⟨ρ, G, τ, r0, s0, h⟩ => h ρ H .refl r0 [] .nil
theorem a_cons {e : Expr} {es : List Expr} {m : M T} {ms : M (List W)} (he : PE X e (tE X.K ca Wx m)) (hr : PA X es (tA X.K ca Wx ms)) (hs : starEach (e :: es) X.env = (false, eval e X.env) :: starEach es X.env := by rfl) :
    PA X (e :: es) (tA X.K ca Wx (mCons m ms)) := by
  refine PA.weak (pa_cons he hr hs) fun σ H Q ⟨ρ, G, τ, r0, s0, h⟩ => ?_
  refine tE.seqF r0 s0 h fun w G1 ρ1 H1 v x1 r1 s1 q1 h1 => ?_
  refine ⟨ρ1, G1, τ, r1, s1, h1.bind.imp fun ws G2 ρ2 H2 x2 r2 h2 vs qs => ?_⟩
  exact h2 ρ2 H2 .refl r2 (v :: vs) (.cons (q1.ext r1 x2) qs)
theorem tA.seq {α : Type} {m : M (List W)} {k : List W → GH → R α} {P : α → GH → List Addr → Hp → Prop} {Q : List V → Hp → Prop} (r : Rep X.K ca ρ G H) (s : RelS X.K ca ρ H σ τ) (h : Post X.K ca Wx σ ρ H P ((m τ G).bind k))
    (hk : ∀ ws G1 ρ1 H1 vs, Ext ρ H ρ1 H1 → Rep X.K ca ρ1 G1 H1 → RelS X.K ca ρ1 H1 σ τ → RelWs X.K ca ρ1 H1 vs ws → Post X.K ca Wx σ ρ1 H1 P (k ws G1) → Q vs H1) : tA X.K ca Wx m σ H Q :=
  ⟨ρ, G, τ, r, s, h.bind.imp fun ws G1 ρ1 H1 x r1 q vs rv => hk ws G1 ρ1 H1 vs x r1 (s.ext r x) rv q⟩
theorem s_tup {es : List Expr} {x1 : Nat} {pos : Pos} {ms : M (List W)} (h : PA X es (tA X.K ca Wx ms)) : PE X (.Tuple es x1 pos) (tE X.K ca Wx (mTup ms)) := by
  refine PE.weak (pe_tup h) fun σ H Q ⟨ρ, G, τ, r0, s0, h⟩ => ?_
  refine tA.seq r0 s0 h fun ws G1 ρ1 H1 vs x1 r1 s1 q1 h1 => ?_
  have hl := q1.length
  by_cases hz : ws.length ≤ 16777216
  · rw [if_pos hz] at h1
    refine ⟨by rw [sizeLine_eq]; omega, fun p hp => ?_⟩
    have x2 : Ext ρ1 H1 ρ1 (upd H1 p (.tup vs)) := Ext.laid hp
    exact h1 ρ1 _ x2 (r1.laid hp) _ (RelW.tup' (.of upd_same) (relWs_ext q1 r1 x2))
  · rw [if_neg hz] at h1
    exact h1.elim
theorem s_lst {es : List Expr} {pos : Pos} {ms : M (List W)} (h : PA X es (tA X.K ca Wx ms)) : PE X (.List es pos) (tE X.K ca Wx (mLst ms)) := by
  refine PE.weak (pe_lst h) fun σ H Q ⟨ρ, G, τ, r0, s0, h⟩ => ?_
  refine tA.seq r0 s0 h fun ws G1 ρ1 H1 vs x1 r1 s1 q1 h1 => ?_
  have hl := q1.length
  by_cases hz : ws.length ≤ 16777216
  · rw [if_pos hz] at h1
    refine ⟨by rw [sizeLine_eq]; omega, fun p hp => ?_⟩
    have x2 : Ext ρ1 H1 ρ1 (upd H1 p (.lst vs)) := Ext.laid hp
    refine h1 ρ1 _ x2 (r1.laid hp) _ ?_
    refine RelT.back (ρ := ρ1) (H := H1) ?_ x1 x2
    exact ⟨p, vs, rfl, r1.fresh hp, hp, upd_same, relWs_ext q1 r1 x2⟩
  · rw [if_neg hz] at h1
    exact h1.elim
end
end Sy
set_option Elab.async false
set_option linter.all false
set_option maxRecDepth 100000
set_option maxHeartbeats 4000000
/-! a tuple once; enumerate of a tuple -/
namespace Sy
open PySem PySem.Spec PyProof.Rows L2
theorem tupOnce (l : Addr) (items : Array Value) (n : Nat) (dd : Option Addr) (sl : Array (Option Value)) (u : Tok) :
    Meets (Builtin.«tuple.__mul__» ⟨[.ref l, .int 1 u], []⟩) (fun _ R s => s.heap.get? l = some { cls := .type "tuple", dict := dd, data := .seq items n, slots := sl } ∧ R (.ok (.ret (Value.ref l))) s) :=
  .of_wp fun prog w A R s h => by
    obtain ⟨hp, g, d, tk, os⟩ := s
    obtain ⟨hl, h⟩ := h
    have f1 := AutoSeq1.idx_int
    have c1 : (items.isEmpty || (1 : Int) == 1) = true := by simp
    wp_walk using AutoSeq1.wpAny_loadPart' hl
    repeat (first
      | (refine wpAny_ite_true (by rw [c1]) ?_; wp_walk using AutoSeq1.wpAny_loadPart' hl))
    exact ⟨_, rfl, h⟩
def rOneT (K : PySem.W.Frag) : R2 := fun x y H Q => ∃ l xs, x = .ref l ∧ y = .int 1 ∧ SqT K H l xs ∧ Q (.ref l) H
section
variable {X : Cx}
theorem op_oneT : OpR X (binaryOp .Mult) (rOneT X.K) := by
  intro pins s σ H x y v u Q I rx ry h
  obtain ⟨l, xs, rfl, rfl, hT, q⟩ := h
  cases rx
  obtain ⟨t, rfl⟩ := ry
  obtain ⟨its, r, ⟨⟨cls, dd, data, sl⟩, ho, hc, n, hd⟩, hs⟩ := I.tuple hT
  simp only at hc hd
  subst hc hd
  exact wpAny_binaryOp_repeat_ref (T := "tuple") (U := "int") (by decide) ⟨_, ho, rfl⟩ (fun s' => typeIs_int s' 1 t) noFill_tuple_mul F.fills_int_mul F.slot_int_rmul repeat_tuple F.slot_int_index.lookup
    (call_meets F.slot_int_rmul (typeIs_int s 1 t) F.entry_int_rmul (F.args_int_rmul_2 _ _) (int_rmul_tuple 1 t l its.toArray n dd sl)
      ⟨ho, rfl, ⟨_, ho, rfl⟩, call_meets F.slot_tuple_mul ⟨_, ho, rfl⟩ F.entry_tuple_mul (F.args_tuple_mul_2 _ _) (tupOnce l its.toArray n dd sl t) ⟨ho, .ref l, H, I, rfl, q⟩⟩)
end
/-! enumerate of a tuple -/
theorem enumNewT (l : Addr) (items : Array Value) (n : Nat) (dct : Option Addr) (sl : Array (Option Value)) :
    Meets (Builtin.«enumerate.__new__» ⟨[.type "enumerate", .ref l], []⟩) (fun _ R s => s.heap.get? l = some { cls := .type "tuple", dict := dct, data := .seq items n, slots := sl } ∧
      R (.ok (.ret (.ref (s.heap.push { cls := .type "tuple_iterator", data := .fields #[.ref l, .int 0 0] }).objs.size)))
        { s with heap := (s.heap.push { cls := .type "tuple_iterator", data := .fields #[.ref l, .int 0 0] }).push { cls := .type "enumerate", data := .fields #[.none, .bool false, .ref s.heap.objs.size, rawInt 0, .none, .none] } }) :=
  .of_wp fun prog w A R s h => by
    obtain ⟨hp, g, d, tk, os⟩ := s
    obtain ⟨hl, h⟩ := h
    have hsub := sub_enumerate
    have hLT : Heap.IsTuple (Shared.heap ⟨hp, g, d, tk, os⟩) l items := ⟨_, hl, rfl, n, rfl⟩
    wp_walk using AutoSeq1.wpAny_loadPart' hl
    refine wpAny_stack_any fun st => wpAny_pure ?_
    split
    · rename_i c _ _ _ _ _
      cases (c == Value.type "enumerate") <;>
      · wp_walk using AutoSeq1.wpAny_loadPart' hl, wpAny_pyIter_tuple hLT
        exact ⟨_, rfl, h⟩
    · wp_walk using AutoSeq1.wpAny_loadPart' hl, wpAny_pyIter_tuple hLT
      exact ⟨_, rfl, h⟩
theorem enumCallT {prog : Program} {w : World} {A : Around} {E : Value → Shared → Prop} {s : Shared} {l : Addr} {items : Array Value} {Q : Value → Shared → Prop} (hL : s.heap.IsTuple l items)
    (h : ∀ h', IsEnum h' (s.heap.objs.size + 1) s.heap.objs.size 0 .none → h'.IsTupleIter s.heap.objs.size l 0 →
      (∀ b o, s.heap.get? b = some o → h'.get? b = some o) → Q (.ref (s.heap.objs.size + 1)) { s with heap := h' }) :
    wpAny (model prog w) A (call (.type "enumerate") [.ref l]) Q E s := by
  obtain ⟨⟨c, dct, dt, sl⟩, hl, hc, n, hd⟩ := hL
  simp only at hc hd
  subst hc hd
  refine callType_new F.called_enumerate (by decide) (F.typeCall_enumerate_1 _) (F.newCall_enumerate_1 _) (fun obj => F.args_object_init_2 obj _) F.entry_enumerate_new (enumNewT l items n dct sl) ⟨hl, ?_⟩
  generalize eI : ({ cls := Value.type "tuple_iterator", data := .fields #[.ref l, .int 0 0] } : Obj) = oI
  have hz : (s.heap.push oI).objs.size = s.heap.objs.size + 1 := Heap.size_push ..
  rw [hz]
  generalize eE : ({ cls := Value.type "enumerate", data := .fields #[.none, .bool false, .ref s.heap.objs.size, rawInt 0, .none, .none] } : Obj) = oE
  have he : ((s.heap.push oI).push oE).get? (s.heap.objs.size + 1) = some oE := by
    have := Heap.get?_push_size (s.heap.push oI) (o := oE) (by rw [← eE]; rfl)
    rw [hz] at this
    exact this
  have hi : ((s.heap.push oI).push oE).get? s.heap.objs.size = some oI := Heap.get?_push_of_some _ (Heap.get?_push_size _ (by rw [← eI]; rfl))
  refine ⟨⟨_, he, by rw [← eE]⟩, h _ ?_ ⟨_, hi, by rw [← eI], by rw [← eI]; rfl⟩ fun b o x => Heap.get?_push_of_some _ (Heap.get?_push_of_some _ x)⟩
  show Heap.get? _ _ = _
  rw [he, ← eE]
theorem drawsT {prog : Program} {w : World} {A : Around} (hh : A.handled = none) (it l : Addr) (hne : l ≠ it) (items : Array Value) :
    Draws prog w A it [it, l] items.size (fun i v => items[i]? = some v) (fun i h => h.IsTupleIter it l i ∧ h.IsTuple l items) where
  live := fun _ _ st => let ⟨o, ho, _⟩ := st.1; ⟨o, ho⟩
  frame := fun _ _ _ st hk => ⟨st.1.at fun o e => hk it (by simp) o e, let ⟨o, ho, r⟩ := st.2; ⟨o, hk l (by simp) o ho, r⟩⟩
  item := fun i s Q E hi st hQ => by
    refine RZ.nextOf_tuple_item st.1 st.2 (x := items[i]) (by simp [hi]) fun h' hit' hs' => ?_
    exact hQ _ h' s.toks (by simp [hi]) ⟨hit', st.2.extBut hs'.extBut hne⟩ hs'
  done := fun s Q E st hE => RZ.nextOf_tuple_end hh st.1 st.2 (by simp) hE
/-- the tuple at a, each item in a new pair with its number -/
def IteT (K : PySem.W.Frag) (a : Addr) : It :=
  ⟨fun i H => ∃ (xs : List V) (x : V), SqT K H a xs ∧ xs[i]? = some x,
    fun i H v H' => ∃ T x, v = .ref T ∧ H T = none ∧ H' = upd H T (.tup [.int (i : Nat), x]) ∧ ∀ xs, SqT K H a xs → xs[i]? = some x,
    fun i H => ∃ xs : List V, SqT K H a xs ∧ xs.length ≤ i⟩
theorem turn_enumT {P : Program} {w : World} {K : PySem.W.Frag} {elts : List Expr} {kk : Nat} {tpos : Pos} (a e it : Addr) :
    Turn P w K (.Tuple elts kk tpos) (IteT K a) [e, it] e (fun i h => (∃ old, IsEnum h e it ((i : Nat) : Int) old) ∧ h.IsTupleIter it a i ∧ e ≠ it ∧ e ≠ a ∧ a ≠ it) where
  mem := List.mem_cons_self
  obj := fun i h st b hb => by
    obtain ⟨⟨old, he⟩, ⟨o, ho, hc, hd⟩, _⟩ := st
    rcases (show b = e ∨ b = it by simpa using hb) with z | z
    · rw [z]
      exact ⟨_, he, fun v q => nomatch q⟩
    · rw [z]
      exact ⟨o, ho, fun v q => by rw [hd] at q; cases q⟩
  keep := fun i h h' st k => by
    obtain ⟨⟨old, he⟩, hi, hne⟩ := st
    exact ⟨⟨old, k e List.mem_cons_self _ he⟩, hi.at fun o q => k it (by simp) o q, hne⟩
  item := by
    intro X hP hw hK hc i pins s σ H E I hf st hg
    subst hP hw hK
    obtain ⟨⟨old, he⟩, hit, hne, hea, hai⟩ := st
    obtain ⟨xs, x, hq, hx⟩ := hg
    obtain ⟨its, rv, p, hz⟩ := I.tuple hq
    obtain ⟨u, hu, ru⟩ := rv.get hx
    have hel : e < s.heap.objs.size := Heap.lt_size he
    have hil : it < s.heap.objs.size := let ⟨_, q, _⟩ := hit; Heap.lt_size q
    have hD := drawsT (prog := X.prog) (w := X.w) (A := X.A.in1) (I.ok.hd hc) it a hai its.toArray
    have hlt : i < its.toArray.size := by
      have := (List.getElem?_eq_some_iff.mp hu).1
      simpa using this
    refine wpAny_pyNext_enum_itemD hD he ⟨hit, p⟩ hlt hne (by simp [hne, hea]) fun y h' tk hy ho hst hT hsz hk => ?_
    have hy' : y = u := by
      have e1 : its[i]? = some y := by simpa using hy
      rw [hu] at e1
      exact (Option.some.inj e1).symm
    subst hy'
    refine ⟨_, rfl, wpAny_letOwnedTupleGo_enum (s := { s with heap := h', toks := tk + 1 }) ho fun h'' he' sb => ?_⟩
    have hT2 := (sb.2 _ (Nat.ne_of_gt hel)).trans hT
    have nw : ObjOk X.prog X.w (upd H s.heap.objs.size (.tup [.int (i : Nat), x])) h'' s.heap.objs.size (.tup [.int (i : Nat), x]) :=
      ⟨by show 2 ≤ sizeLine; decide, [.int i tk, y], .cons ⟨_, rfl⟩ (.cons ru .nil), ⟨_, hT2, rfl, _, rfl⟩⟩
    have I1 : Inv X pins σ (upd H s.heap.objs.size (.tup [.int (i : Nat), x])) { s with heap := h'', toks := tk + 1 } :=
      I.turnedNew (ch := [e, it]) (fun b ob hb q => (sb.2 b (fun z => hb (by simp [z]))).trans (hk b ob (fun z => hb (by simp [z])) (fun z => hb (by simp [z])) q)) hf (Nat.le_refl _) nw
    refine ⟨.ref s.heap.objs.size, _, I1, rfl, ⟨_, x, rfl, I.hok.fresh (Nat.le_refl _), rfl, fun ys hy => by rw [I.tuple_inj hy hq]; exact hx⟩, ⟨⟨y, ?_⟩, hst.1.at fun o q => (sb.2 it (Ne.symm hne)).trans q, hne, hea, hai⟩, fun b hb => ?_⟩
    · rw [show ((i + 1 : Nat) : Int) = (i : Int) + 1 by omega]
      exact he'
    · have hb' : b < s.heap.objs.size := by
        rcases (show b = e ∨ b = it by simpa using hb) with z | z
        · exact z ▸ hel
        · exact z ▸ hil
      rw [upd_ne (Nat.ne_of_lt hb')]
      exact (hf b hb).1
  done := by
    intro X hP hw hK hc i pins s σ H E I hf st hg
    subst hP hw hK
    obtain ⟨⟨old, he⟩, hit, hne, hea, hai⟩ := st
    obtain ⟨xs, hq, hx⟩ := hg
    obtain ⟨its, rv, p, hz⟩ := I.tuple hq
    obtain ⟨f0, f1, f2, f3, f4, f5⟩ := hf it (by simp)
    have hl := rv.length
    unfold pyNext
    refine wpAny_bind (wpAny_attempt (wpAny_callSpecial?_slot (name := Str.ofString "__next__") ⟨_, he, rfl⟩ F.slot_enumerate_next (wpAny_call_entry F.slot_enumerate_next ⟨_, he, rfl⟩ F.entry_enumerate_next ?_ (F.args_enumerate_next_1 _))))
    show wpAny _ _ (field (.ref e) 2 >>= _) _ _ _
    refine wpAny_bind (wpAny_field he rfl (x := .ref it) rfl ?_)
    refine wpAny_bind (RZ.nextOf_tuple_end (I.ok.hd hc) hit p (by simp; omega) fun h' x he' hx' => ?_)
    obtain ⟨o, ho, hcl⟩ := hx'
    refine wpAny_bind (wpAny_isInstance (T := "StopIteration") (b := true) ⟨o, ho, hcl⟩ isSubtype_stop ?_)
    exact wpAny_pure ⟨rfl, I.turned (t' := s.toks) (fun b o hb q => he' b o hb q) f0 f1 f3 f4 f5⟩
  self := fun A i s Q E st h => let ⟨⟨_, he⟩, _⟩ := st; wpAny_pyIter_enum he h
def iEnumA (K : PySem.W.Frag) (ta : TA) : TI := fun σ H R => ta σ H fun vs H1 => ∃ a xs, vs = [.ref a] ∧ ((SqL K H1 a xs ∧ R (Ite K a) H1) ∨ (SqT K H1 a xs ∧ R (IteT K a) H1))
theorem pi_enumA {X : Cx} {e : Expr} {ta : TA} {p pos tpos : Pos} {elts : List Expr} {kk : Nat} (hg : Gl X "enumerate") (hm : X.mg "enumerate" = none) (ha : PA X [e] ta) (hs : starEach [e] X.env = [(false, eval e X.env)] := by rfl) :
    PI X (.Tuple elts kk tpos) (.Call (.Name "enumerate" p) [e] [] pos) (iEnumA X.K ta) := by
  refine ⟨fun pins s σ H R I h => ?_⟩
  refine Call_ (ld_blt I hg hm boot_enumerate (PyProof.Rows.callWith_type1 (thn (ha.run pos pins s σ H _ I h) fun us s1 ⟨vs, H1, I1, r1, q1⟩ => ?_) hs rfl))
  obtain ⟨a, xs, ex, q1⟩ := q1
  subst ex
  have fr : ∀ b, b ∈ [s1.heap.objs.size + 1, s1.heap.objs.size] → FpOk X pins H1 b := fun b hb => by
    have hle : s1.heap.objs.size ≤ b := by
      rcases (show b = s1.heap.objs.size + 1 ∨ b = s1.heap.objs.size by simpa using hb) with z | z
      · exact z ▸ Nat.le_add_right _ _
      · exact z ▸ Nat.le_refl _
    exact I1.fpOk hle (I1.hok.fresh hle)
  cases r1 with
  | cons r rr =>
    cases rr
    cases r
    rcases q1 with ⟨hq, q⟩ | ⟨hq, q⟩
    · obtain ⟨its, rv, p', hz⟩ := I1.list hq
      refine call_enumerate_list p'.isList fun h' he hit hsz hk => wpAny_pyIter_enum he ?_
      exact ⟨s1.heap.objs.size + 1, [s1.heap.objs.size + 1, s1.heap.objs.size], _, _, H1, rfl, I1.kept (t' := s1.toks) hk, turn_enum a (s1.heap.objs.size + 1) s1.heap.objs.size, ⟨⟨.none, he⟩, hit, Nat.succ_ne_self _⟩, fr, q⟩
    · obtain ⟨its, rv, p', hz⟩ := I1.tuple hq
      have hal : a < s1.heap.objs.size := let ⟨_, q, _⟩ := p'; Heap.lt_size q
      refine enumCallT p' fun h' he hit hk => wpAny_pyIter_enum he ?_
      exact ⟨s1.heap.objs.size + 1, [s1.heap.objs.size + 1, s1.heap.objs.size], _, _, H1, rfl, I1.kept (t' := s1.toks) hk, turn_enumT a (s1.heap.objs.size + 1) s1.heap.objs.size, ⟨⟨.none, he⟩, hit, Nat.succ_ne_self _, Nat.ne_of_gt (Nat.lt_succ_of_lt hal), Nat.ne_of_lt hal⟩, fr, q⟩
/-! lists of unlike lengths; a thing and itself -/
def rEqLen (K : PySem.W.Frag) : R2 := fun x y H Q => ∃ a b vs us, x = .ref a ∧ y = .ref b ∧ SqL K H a vs ∧ SqL K H b us ∧ vs.length ≠ us.length ∧ Q (.bl false) H
def rNeLen (K : PySem.W.Frag) : R2 := fun x y H Q => ∃ a b vs us, x = .ref a ∧ y = .ref b ∧ SqL K H a vs ∧ SqL K H b us ∧ vs.length ≠ us.length ∧ Q (.bl true) H
section
variable {X : Cx}
theorem op_eqLen (hu : X.A.units + 64 < cLine) : OpR X (compareOp .Eq) (rEqLen X.K) := by
  intro pins s σ H x y v u Q I rx ry h
  obtain ⟨a, b, vs, us, rfl, rfl, h1, h2, hl, q⟩ := h
  cases rx
  cases ry
  obtain ⟨its, r1, p1, _⟩ := I.list h1
  obtain ⟨its2, r2, p2, _⟩ := I.list h2
  have l1 := r1.length
  have l2 := r2.length
  have hs : (its.toArray.size != its2.toArray.size) = true := by
    simp
    omega
  exact SeqAt.eq_list_lengthsAt p1.isList p2.isList hs (by omega) ⟨.bl false, H, I, rfl, q⟩
theorem op_neLen (hu : X.A.units + 64 < cLine) : OpR X (compareOp .NotEq) (rNeLen X.K) := by
  intro pins s σ H x y v u Q I rx ry h
  obtain ⟨a, b, vs, us, rfl, rfl, h1, h2, hl, q⟩ := h
  cases rx
  cases ry
  obtain ⟨its, r1, p1, _⟩ := I.list h1
  obtain ⟨its2, r2, p2, _⟩ := I.list h2
  have l1 := r1.length
  have l2 := r2.length
  have hs : (its.toArray.size != its2.toArray.size) = true := by
    simp
    omega
  exact SeqAt.RcNeAt.lists_lengths p1.isList p2.isList hs (by omega) X.prog X.w X.xe _ ⟨.bl true, H, I, rfl, q⟩
def rEqA (K : PySem.W.Frag) : R2 := fun x y H Q => rEqD K x y H Q ∨ rEqV K x y H Q ∨ rEqLen K x y H Q
def rNeA (K : PySem.W.Frag) : R2 := fun x y H Q => rNeD K x y H Q ∨ rNeLen K x y H Q
theorem op_eqA (hu : X.A.units + 64 < cLine) : OpR X (compareOp .Eq) (rEqA X.K) := (op_eqD hu).or ((op_eqV hu).or (op_eqLen hu))
theorem op_neA (hu : X.A.units + 64 < cLine) : OpR X (compareOp .NotEq) (rNeA X.K) := (op_neD hu).or (op_neLen hu)
/-- a thing equals itself -/
def refl1 : V → Prop := fun v => flatB v = true ∨ ∃ a, v = .ref a
theorem eqV_refl (K : PySem.W.Frag) (H : Hp) {v : V} (h : refl1 v) : EqV K H 1 v v := by
  rcases h with h | ⟨a, rfl⟩
  · exact .inl ⟨rfl, h⟩
  · exact .inr (.inl ⟨a, rfl, rfl⟩)
theorem eqR_selfL {K : PySem.W.Frag} {H : Hp} {a : Addr} {vs : List V} (h : SqL K H a vs) (f : ∀ v ∈ vs, refl1 v) : EqR K H (EqV K H 1) (.ref a) (.ref a) := by
  refine .inl ⟨a, a, vs, vs, rfl, rfl, h, h, ?_⟩
  clear h
  induction vs with
  | nil => exact .nil
  | cons v vs ih => exact .cons (eqV_refl K H (f v List.mem_cons_self)) (ih fun u hu => f u (List.mem_cons_of_mem _ hu))
theorem eqR_selfD {K : PySem.W.Frag} {H : Hp} {a : Addr} (h : H a = some (.dK [])) : EqR K H (EqV K H 1) (.ref a) (.ref a) :=
  .inr ⟨a, a, [], [], rfl, rfl, h, h, rfl, fun p hp => absurd hp (by simp)⟩
end
end Sy
set_option Elab.async false
set_option linter.all false
set_option maxRecDepth 100000
set_option maxHeartbeats 4000000
namespace Sy
open PySem PySem.Spec PyProof.Rows L2

/-! what stands at a value -/
def GO.rd : GO → Option (List W)
  | .lst ws => some ws
  | _ => none
def GO.wr : GO → Option (List W)
  | .lst ws => some ws
  | _ => none
def rdw (G : GH) : W → Option (List W)
  | .loc n => G[n]?.bind GO.rd
  | .frl ws => some ws
  | _ => none
def wrw (G : GH) : W → Option (List W)
  | .loc n => G[n]?.bind GO.wr
  | _ => none
def rdl (t : T) (G : GH) : Option (List W) := match t with
  | .tmp ws => some ws
  | .val w => rdw G w
def wrl (t : T) (G : GH) : Option (List W) := match t with
  | .tmp ws => some ws
  | .val w => wrw G w
def rdt : T → Option (List W)
  | .val (.tup ws) => some ws
  | _ => none
section
variable {K : PySem.W.Frag} {ca : Nat → Addr} {ρ : List Addr} {G : GH} {H H0 : Hp} {v : V} {t : T} {ws : List W}
theorem rdw_of {w : W} (r : Rep K ca ρ G H) (q : RelW K ca ρ H v w) (h : rdw G w = some ws) : ∃ a vs, v = .ref a ∧ SqL K H a vs ∧ RelWs K ca ρ H vs ws := by
  cases w with
  | loc n =>
    cases q with
    | loc hn =>
      obtain ⟨o, e, ho⟩ := r.at hn
      have h : G[n]?.bind GO.rd = some ws := h
      rw [e] at h
      cases o with
      | lst us => cases h; obtain ⟨vs, e, q⟩ := ho; exact ⟨_, vs, rfl, .of e, q⟩
      | _ => cases h
  | frl us =>
    cases h
    obtain ⟨a, vs, e, hv, qs⟩ := relW_frl q
    exact ⟨a, vs, e, hv.sq, qs⟩
  | _ => cases h
theorem wrw_of {w : W} (r : Rep K ca ρ G H) (q : RelW K ca ρ H v w) (h : wrw G w = some ws) : ∃ a vs, v = .ref a ∧ H a = some (.lst vs) ∧ RelWs K ca ρ H vs ws := by
  cases w with
  | loc n =>
    cases q with
    | loc hn =>
      obtain ⟨o, e, ho⟩ := r.at hn
      have h : G[n]?.bind GO.wr = some ws := h
      rw [e] at h
      cases o with
      | lst us => cases h; obtain ⟨vs, e, q⟩ := ho; exact ⟨_, vs, rfl, e, q⟩
      | _ => cases h
  | _ => cases h
theorem rdl_of (r : Rep K ca ρ G H) (q : RelT K ca H0 ρ H v t) (h : rdl t G = some ws) : ∃ a vs, v = .ref a ∧ SqL K H a vs ∧ RelWs K ca ρ H vs ws := by
  cases t with
  | tmp us =>
    cases h
    obtain ⟨p, vs, e, _, _, hp, hv⟩ := q
    exact ⟨p, vs, e, .of hp, hv⟩
  | val w => exact rdw_of r q h
theorem wrl_of (r : Rep K ca ρ G H) (q : RelT K ca H0 ρ H v t) (h : wrl t G = some ws) : ∃ a vs, v = .ref a ∧ H a = some (.lst vs) ∧ RelWs K ca ρ H vs ws := by
  cases t with
  | tmp us =>
    cases h
    obtain ⟨p, vs, e, _, _, hp, hv⟩ := q
    exact ⟨p, vs, e, hp, hv⟩
  | val w => exact wrw_of r q h
theorem rdt_of (q : RelT K ca H0 ρ H v t) (h : rdt t = some ws) : ∃ a vs, v = .ref a ∧ SqT K H a vs ∧ RelWs K ca ρ H vs ws := by
  cases t with
  | tmp us => cases h
  | val w =>
    cases w with
    | tup us => cases h; exact relW_tup q
    | _ => cases h
end

/-! data -/
def mapO {α β : Type} (f : α → Option β) : List α → Option (List β)
  | [] => some []
  | x :: xs => (f x).bind fun y => (mapO f xs).bind fun ys => some (y :: ys)
def toD : Nat → GH → W → Option PyData
  | 0, _, _ => none
  | n + 1, G, w => match w with
    | .non => some .none
    | .bl b => some (.bool b)
    | .int i => some (.int i)
    | .str x => if x.cps.all (· < 0x110000) then some (.str x) else none
    | .tup ws => (mapO (toD n G) ws).map .tuple
    | .loc k => (rdw G (.loc k)).bind fun ws => (mapO (toD n G) ws).map .list
    | .frl ws => (mapO (toD n G) ws).map .list
    | .ty _ => none
    | .cls _ => none
    | .exn _ _ => none
def toDT (G : GH) : T → Option PyData
  | .val w => toD 9 G w
  | .tmp ws => (mapO (toD 8 G) ws).map .list

theorem mapO_dp {K : PySem.W.Frag} {ca : Nat → Addr} {ρ : List Addr} {G : GH} {H : Hp} {n : Nat} (f : ∀ (w : W) (v : V) (d : PyData), RelW K ca ρ H v w → toD n G w = some d → Dp K H v d ∧ d.canLay0 = true ∧ d.depth ≤ n) :
    ∀ {ws : List W} {vs : List V} {ds : List PyData}, RelWs K ca ρ H vs ws → mapO (toD n G) ws = some ds → DpAll K H vs ds ∧ PyData.canLayAll0 ds = true ∧ PyData.depthAll ds ≤ n
  | [], _, _, .nil, h => by cases h; exact ⟨.nil, rfl, Nat.zero_le _⟩
  | w :: ws, _, ds, .cons q t, h => by
    unfold mapO at h
    cases e1 : toD n G w with
    | none => rw [e1] at h; cases h
    | some d =>
      cases e2 : mapO (toD n G) ws with
      | none => rw [e1, e2] at h; cases h
      | some ds' =>
        rw [e1, e2] at h; cases h
        obtain ⟨a1, a2, a3⟩ := f w _ d q e1
        obtain ⟨b1, b2, b3⟩ := mapO_dp f t e2
        exact ⟨.cons a1 b1, by unfold PyData.canLayAll0; rw [a2, b2]; rfl, by unfold PyData.depthAll; omega⟩
theorem toD_dp {K : PySem.W.Frag} {ca : Nat → Addr} {ρ : List Addr} {G : GH} {H : Hp} (r : Rep K ca ρ G H) : ∀ (n : Nat) (w : W) (v : V) (d : PyData), RelW K ca ρ H v w → toD n G w = some d → Dp K H v d ∧ d.canLay0 = true ∧ d.depth ≤ n
  | 0, _, _, _, _, h => by cases h
  | n + 1, w, v, d, q, h => by
    cases w with
    | non => cases h; cases q; exact ⟨.non, rfl, Nat.zero_le _⟩
    | bl b => cases h; cases q; exact ⟨.bl b, rfl, Nat.zero_le _⟩
    | int b => cases h; cases q; exact ⟨.int b, rfl, Nat.zero_le _⟩
    | str x =>
      have h' : (if x.cps.all (· < 0x110000) then some (PyData.str x) else none) = some d := h
      by_cases z : x.cps.all (· < 0x110000) = true
      · rw [if_pos z] at h'
        cases h'; cases q; exact ⟨.str x, by unfold PyData.canLay0; exact z, Nat.zero_le _⟩
      · rw [if_neg z] at h'; cases h'
    | tup ws =>
      have h' : (mapO (toD n G) ws).map PyData.tuple = some d := h
      cases e : mapO (toD n G) ws with
      | none => rw [e] at h'; cases h'
      | some ds =>
        rw [e] at h'; cases h'
        obtain ⟨a, vs, rfl, hs, qs⟩ := relW_tup q
        obtain ⟨h1, h2, h3⟩ := mapO_dp (toD_dp r n) qs e
        exact ⟨.tup hs h1, by unfold PyData.canLay0; exact h2, by unfold PyData.depth; omega⟩
    | loc k =>
      have h' : ((rdw G (.loc k)).bind fun ws => (mapO (toD n G) ws).map PyData.list) = some d := h
      cases e0 : rdw G (.loc k) with
      | none => rw [e0] at h'; cases h'
      | some ws =>
        rw [e0] at h'
        have h2 : (mapO (toD n G) ws).map PyData.list = some d := h'
        cases e : mapO (toD n G) ws with
        | none => rw [e] at h2; cases h2
        | some ds =>
          rw [e] at h2; cases h2
          obtain ⟨a, vs, rfl, hs, qs⟩ := rdw_of r q e0
          obtain ⟨h1, h2, h3⟩ := mapO_dp (toD_dp r n) qs e
          exact ⟨.lst hs h1, by unfold PyData.canLay0; exact h2, by unfold PyData.depth; omega⟩
    | frl ws =>
      have h' : (mapO (toD n G) ws).map PyData.list = some d := h
      cases e : mapO (toD n G) ws with
      | none => rw [e] at h'; cases h'
      | some ds =>
        rw [e] at h'; cases h'
        obtain ⟨a, vs, rfl, hs, qs⟩ := relW_frl q
        obtain ⟨h1, h2, h3⟩ := mapO_dp (toD_dp r n) qs e
        exact ⟨.lst hs.sq h1, by unfold PyData.canLay0; exact h2, by unfold PyData.depth; omega⟩
    | ty b => cases h
    | cls b => cases h
    | exn b a => cases h
theorem toDT_dp {K : PySem.W.Frag} {ca : Nat → Addr} {ρ : List Addr} {G : GH} {H H0 : Hp} (r : Rep K ca ρ G H) {t : T} {v : V} {d : PyData} (q : RelT K ca H0 ρ H v t) (h : toDT G t = some d) : Dp K H v d ∧ SeqAt.shaped d = true := by
  cases t with
  | val w =>
    obtain ⟨h1, h2, h3⟩ := toD_dp r 9 w v d q h
    exact ⟨h1, by unfold SeqAt.shaped; rw [h2]; exact decide_eq_true (by omega)⟩
  | tmp ws =>
    obtain ⟨p, vs, rfl, _, _, hp, qs⟩ := q
    have h' : (mapO (toD 8 G) ws).map PyData.list = some d := h
    cases e : mapO (toD 8 G) ws with
    | none => rw [e] at h'; cases h'
    | some ds =>
      rw [e] at h'; cases h'
      obtain ⟨h1, h2, h3⟩ := mapO_dp (toD_dp r 8) qs e
      refine ⟨.lst (.of hp) h1, ?_⟩
      unfold SeqAt.shaped
      have z : (PyData.list ds).canLay0 = true := by unfold PyData.canLay0; exact h2
      rw [z]
      refine decide_eq_true ?_
      unfold PyData.depth
      omega

/-! operations by values -/
def fI2 (c : Int → Int → Bool) (g : Int → Int → Int) : T → T → GH → R T
  | .val (.int i), .val (.int j), G => if c i j then .ok (.val (.int (g i j))) G else .bad
  | _, _, _ => .bad
def fC2 (g : Int → Int → Bool) : T → T → GH → R T
  | .val (.int i), .val (.int j), G => .ok (.val (.bl (g i j))) G
  | _, _, _ => .bad
def lineN : Nat := 16777216
def fAdd : T → T → GH → R T
  | .val (.int i), .val (.int j), G => .ok (.val (.int (i + j))) G
  | .val (.str x), .val (.str y), G => if x.length + y.length ≤ 16777216 then .ok (.val (.str (x ++ y))) G else .bad
  | .val (.tup xs), .val (.tup ys), G => if xs.length + ys.length ≤ 16777216 then .ok (.val (.tup (xs ++ ys))) G else .bad
  | x, y, G => match wrl x G, wrl y G with
    | some xs, some ys => if xs.length + ys.length ≤ 16777216 then .ok (.tmp (xs ++ ys)) G else .bad
    | _, _ => .bad
def mulOk (i j : Int) : Bool := decide (Builtin.Int.intBits i + Builtin.Int.intBits j ≤ 134217728)
def repW (ws : List W) (k : Nat) : List W := (List.replicate k ws).flatten
def repS (x : Str) (n : Int) : Str := if n < 1 then Str.empty else if (n == 1 || x.length == 0) = true then x else ⟨(List.replicate n.toNat x.cps).foldl (· ++ ·) #[]⟩
def repOk (x : Str) (k : Int) : Bool := decide (-(2 ^ 63) ≤ k) && decide (k < 2 ^ 63) && decide (x.length * k.toNat ≤ 16777216) && decide ((repS x k).length ≤ 16777216)
def fMul : T → T → GH → R T
  | .val (.int i), .val (.int j), G => if mulOk i j then .ok (.val (.int (i * j))) G else .bad
  | .val (.tup xs), .val (.int k), G => if k = 1 then .ok (.val (.tup xs)) G else if !xs.isEmpty && decide (2 ≤ k) && decide (k ≤ 1000) && decide (xs.length ≤ 1000) then .ok (.val (.tup (repW xs k.toNat))) G else .bad
  | .val (.str x), .val (.int k), G => if repOk x k then .ok (.val (.str (repS x k))) G else .bad
  | x, .val (.int k), G => match wrl x G with
    | some xs => if decide (-(2 ^ 63) ≤ k) && decide (k < 2 ^ 63) && decide (xs.length * k.toNat ≤ 16777216) then .ok (.tmp (repW xs k.toNat)) G else .bad
    | _ => .bad
  | _, _, _ => .bad
def fSub := fI2 (fun _ _ => true) (fun i j => i - j)
def fFdiv := fI2 (fun _ j => decide (0 < j) && decide (j.natAbs.log2 < 9000)) (fun i j => i / j)
def fMod := fI2 (fun _ j => decide (0 < j)) (fun i j => i % j)
def fShl := fI2 (fun i j => decide (0 ≤ j) && decide ((Builtin.Int.intBits i : Int) + j ≤ 2 ^ 27)) (fun i j => i * 2 ^ j.toNat)
def fShr := fI2 (fun _ j => decide (0 ≤ j)) (fun i j => i / 2 ^ j.toNat)
def fAnd := fI2 (fun _ _ => true) Builtin.bitAnd
def fOr := fI2 (fun _ _ => true) Builtin.bitOr
def fXor := fI2 (fun _ _ => true) Builtin.bitXor
def fPow := fI2 (fun i j => decide (0 ≤ j) && decide (j ≤ 1000000) && decide (i.natAbs < 2 ^ 64)) (fun i j => i ^ j.toNat)
def fLt := fC2 (fun i j => decide (i < j))
def fLe := fC2 (fun i j => decide (i ≤ j))
def fGt := fC2 (fun i j => decide (j < i))
def fGe := fC2 (fun i j => decide (j ≤ i))
def reflW : W → Bool
  | .non => true
  | .bl _ => true
  | .int _ => true
  | .str _ => true
  | .loc _ => true
  | .tup _ => true
  | .frl _ => true
  | _ => false
def locT : T → Option Nat
  | .val (.loc n) => some n
  | _ => none
def isD0 (n : Nat) (G : GH) : Bool := match G[n]? with
  | some (.dK []) => true
  | _ => false
/-- equal, or not, by what is plain to see -/
def eqSeen (x y : T) (G : GH) : Option Bool := match rdl x G, rdl y G with
  | some ws, some us => if ws.length ≠ us.length then some false else if (locT x).isSome ∧ locT x = locT y ∧ ws.all reflW = true then some true else none
  | _, _ => match locT x, locT y with
    | some n, some m => if n = m ∧ isD0 n G = true then some true else none
    | _, _ => none
def fEq (x y : T) (G : GH) : R T := match toDT G x, toDT G y with
  | some d, some e => .ok (.val (.bl (PyData.eqv d e))) G
  | _, _ => match eqSeen x y G with
    | some b => .ok (.val (.bl b)) G
    | none => .bad
def fNe (x y : T) (G : GH) : R T := match toDT G x, toDT G y with
  | some d, some e => .ok (.val (.bl (!PyData.eqv d e))) G
  | _, _ => match eqSeen x y G with
    | some false => .ok (.val (.bl true)) G
    | _ => .bad
def isNonW : W → Bool
  | .non => true
  | _ => false
def fIs : T → T → GH → R T
  | .val x, .val .non, G => .ok (.val (.bl (isNonW x))) G
  | .val (.bl a), .val (.bl b), G => .ok (.val (.bl (decide (a = b)))) G
  | _, _, _ => .bad
def fIsNot : T → T → GH → R T
  | .val x, .val .non, G => .ok (.val (.bl (!isNonW x))) G
  | .val (.bl a), .val (.bl b), G => .ok (.val (.bl (!decide (a = b)))) G
  | _, _, _ => .bad
section
variable {X : Cx} {ca : Nat → Addr}
theorem says_I {C : Int → Int → Prop} {c : Int → Int → Bool} {g : Int → Int → Int} (h : ∀ i j, c i j = true → C i j) : Says2 X ca (rI C fun i j => .int (g i j)) (fI2 c g) := by
  intro Wx σ ρ G H H0 x y s t Q r qx qy hp
  unfold fI2 at hp
  split at hp
  · cases qx; cases qy
    split at hp
    · rename_i z
      exact ⟨_, _, rfl, rfl, h _ _ z, hp ρ H .refl r _ (.int _)⟩
    · exact hp.elim
  · exact hp.elim
theorem says_I0 {g : Int → Int → Int} : Says2 X ca (rI0 fun i j => .int (g i j)) (fI2 (fun _ _ => true) g) := by
  intro Wx σ ρ G H H0 x y s t Q r qx qy hp
  unfold fI2 at hp
  split at hp
  · cases qx; cases qy
    exact ⟨_, _, rfl, rfl, hp ρ H .refl r _ (.int _)⟩
  · exact hp.elim
theorem says_C {g : Int → Int → Bool} : Says2 X ca (rI0 fun i j => .bl (g i j)) (fC2 g) := by
  intro Wx σ ρ G H H0 x y s t Q r qx qy hp
  unfold fC2 at hp
  split at hp
  · cases qx; cases qy
    exact ⟨_, _, rfl, rfl, hp ρ H .refl r _ (.bl _)⟩
  · exact hp.elim
theorem says_sub : Says2 X ca (rI0 fun i j => .int (i - j)) fSub := says_I0
theorem says_fdiv : Says2 X ca (rI CDivW fun i j => .int (i / j)) fFdiv := says_I fun i j h => by
  rw [Bool.and_eq_true] at h
  exact ⟨of_decide_eq_true h.1, of_decide_eq_true h.2⟩
theorem says_mod : Says2 X ca (rI (fun _ j => 0 < j) fun i j => .int (i % j)) fMod := says_I fun i j h => of_decide_eq_true h
theorem says_shl : Says2 X ca (rI CShl fun i j => .int (i * 2 ^ j.toNat)) fShl := says_I fun i j h => by
  rw [Bool.and_eq_true] at h
  exact ⟨of_decide_eq_true h.1, of_decide_eq_true h.2⟩
theorem says_shr : Says2 X ca (rI (fun _ j => 0 ≤ j) fun i j => .int (i / 2 ^ j.toNat)) fShr := says_I fun i j h => of_decide_eq_true h
theorem says_band : Says2 X ca (rI0 fun i j => .int (Builtin.bitAnd i j)) fAnd := says_I0
theorem says_bor : Says2 X ca (rI0 fun i j => .int (Builtin.bitOr i j)) fOr := says_I0
theorem says_bxor : Says2 X ca (rI0 fun i j => .int (Builtin.bitXor i j)) fXor := says_I0
theorem says_pow : Says2 X ca (rI CPow fun i j => .int (i ^ j.toNat)) fPow := says_I fun i j h => by
  rw [Bool.and_eq_true, Bool.and_eq_true] at h
  exact ⟨of_decide_eq_true h.1.1, of_decide_eq_true h.1.2, of_decide_eq_true h.2⟩
theorem refl1_of {K : PySem.W.Frag} {ρ : List Addr} {H : Hp} {v : V} {w : W} (q : RelW K ca ρ H v w) (h : reflW w = true) : refl1 v := by
  cases q with
  | non => exact .inl rfl
  | bl b => exact .inl rfl
  | int i => exact .inl rfl
  | str x => exact .inl rfl
  | ty n => cases h
  | cls c => cases h
  | exn c a => cases h
  | loc hn => exact .inr ⟨_, rfl⟩
  | tup hs _ _ => exact .inr ⟨_, rfl⟩
  | frl hs _ _ => exact .inr ⟨_, rfl⟩
theorem refls_of {K : PySem.W.Frag} {ρ : List Addr} {H : Hp} : ∀ {vs : List V} {ws : List W}, RelWs K ca ρ H vs ws → ws.all reflW = true → ∀ v ∈ vs, refl1 v
  | _, _, .nil, _ => fun v hv => absurd hv (by simp)
  | _, _, .cons q t, h => fun v hv => by
    rw [List.all_cons, Bool.and_eq_true] at h
    rcases List.mem_cons.mp hv with z | z
    · rw [z]
      exact refl1_of q h.1
    · exact refls_of t h.2 v z
theorem locT_some {t : T} {n : Nat} (h : locT t = some n) : t = .val (.loc n) := by
  unfold locT at h
  split at h
  · cases h
    rfl
  · cases h
theorem says_eq : Says2 X ca (rEqA X.K) fEq := by
  intro Wx σ ρ G H H0 x y s t Q r qx qy hp
  unfold fEq at hp
  split at hp
  · rename_i d e e1 e2
    obtain ⟨a1, a2⟩ := toDT_dp r qx e1
    obtain ⟨b1, b2⟩ := toDT_dp r qy e2
    exact .inl ⟨d, e, a1, b1, a2, b2, hp ρ H .refl r _ (.bl _)⟩
  · split at hp
    · rename_i bb hs
      have q := hp ρ H .refl r _ (.bl _)
      unfold eqSeen at hs
      split at hs
      · rename_i ws us e1 e2
        obtain ⟨a, vs, rfl, ha, qa⟩ := rdl_of r qx e1
        obtain ⟨b, vs2, rfl, hb, qb⟩ := rdl_of r qy e2
        have l1 := qa.length
        have l2 := qb.length
        split at hs
        · rename_i hl
          cases hs
          exact .inr (.inr ⟨a, b, vs, vs2, rfl, rfl, ha, hb, by omega, q⟩)
        · split at hs
          · rename_i hl h2
            cases hs
            obtain ⟨h3, h4, h5⟩ := h2
            obtain ⟨n, hn⟩ := Option.isSome_iff_exists.mp h3
            rw [hn] at h4
            have es := locT_some hn
            have et := locT_some h4.symm
            subst es et
            have hab : a = b := by
              cases qx with
              | loc h6 =>
                cases qy with
                | loc h7 =>
                  rw [h6] at h7
                  exact Option.some.inj h7
            subst hab
            exact .inr (.inl ⟨1, by decide, eqR_selfL ha (refls_of qa h5), q⟩)
          · cases hs
      · split at hs
        · rename_i n m e1 e2
          split at hs
          · rename_i h2
            cases hs
            obtain ⟨rfl, h3⟩ := h2
            have es := locT_some e1
            have et := locT_some e2
            subst es et
            cases qx with
            | loc h6 =>
              cases qy with
              | loc h7 =>
                rw [h6] at h7
                cases h7
                unfold isD0 at h3
                split at h3
                · rename_i e5
                  obtain ⟨o, e4, ho⟩ := r.at h6
                  rw [e5] at e4
                  cases e4
                  obtain ⟨kvs, e6, p⟩ := ho
                  cases p
                  exact .inr (.inl ⟨1, by decide, eqR_selfD e6, q⟩)
                · cases h3
          · cases hs
        · cases hs
    · exact hp.elim
theorem says_ne : Says2 X ca (rNeA X.K) fNe := by
  intro Wx σ ρ G H H0 x y s t Q r qx qy hp
  unfold fNe at hp
  split at hp
  · rename_i d e e1 e2
    obtain ⟨a1, a2⟩ := toDT_dp r qx e1
    obtain ⟨b1, b2⟩ := toDT_dp r qy e2
    exact .inl ⟨d, e, a1, b1, a2, b2, hp ρ H .refl r _ (.bl _)⟩
  · split at hp
    · rename_i hs
      have q := hp ρ H .refl r _ (.bl _)
      unfold eqSeen at hs
      split at hs
      · rename_i ws us e1 e2
        obtain ⟨a, vs, rfl, ha, qa⟩ := rdl_of r qx e1
        obtain ⟨b, vs2, rfl, hb, qb⟩ := rdl_of r qy e2
        have l1 := qa.length
        have l2 := qb.length
        split at hs
        · rename_i hl
          exact .inr ⟨a, b, vs, vs2, rfl, rfl, ha, hb, by omega, q⟩
        · split at hs <;> cases hs
      · split at hs
        · split at hs <;> cases hs
        · cases hs
    · exact hp.elim
def rAddA (K : PySem.W.Frag) : R2 := fun x y H Q => rI0 (fun i j => .int (i + j)) x y H Q ∨ (∃ i j, x = .str i ∧ y = .str j ∧ i.length + j.length ≤ sizeLine ∧ Q (.str (i ++ j)) H) ∨ rCat x y H Q ∨ rCatA K x y H Q
theorem op_addA : OpR X (binaryOp .Add) (rAddA X.K) := op_add.or (op_add_str.or (op_cat.or op_catA))
theorem fresh_tmp {K : PySem.W.Frag} {ρ : List Addr} {G : GH} {H : Hp} {p : Addr} {vs : List V} {ws : List W} (r : Rep K ca ρ G H) (hp : H p = none) (q : RelWs K ca ρ H vs ws) : RelT K ca H ρ (upd H p (.lst vs)) (.ref p) (.tmp ws) :=
  ⟨p, vs, rfl, r.fresh hp, hp, upd_same, relWs_ext q r (.laid hp)⟩
theorem relWs_app {K : PySem.W.Frag} {ρ : List Addr} {H : Hp} : ∀ {vs us : List V} {ws zs : List W}, RelWs K ca ρ H vs ws → RelWs K ca ρ H us zs → RelWs K ca ρ H (vs ++ us) (ws ++ zs)
  | _, _, _, _, .nil, h => h
  | _, _, _, _, .cons q t, h => .cons q (relWs_app t h)
theorem relWs_rep {K : PySem.W.Frag} {ρ : List Addr} {H : Hp} {vs : List V} {ws : List W} (h : RelWs K ca ρ H vs ws) : ∀ k : Nat, RelWs K ca ρ H (List.replicate k vs).flatten (repW ws k)
  | 0 => .nil
  | k + 1 => by
    unfold repW
    rw [List.replicate_succ, List.replicate_succ, List.flatten_cons, List.flatten_cons]
    exact relWs_app h (relWs_rep h k)
theorem says_add : Says2 X ca (rAddA X.K) fAdd := by
  intro Wx σ ρ G H H0 x y s t Q r qx qy hp
  unfold fAdd at hp
  split at hp
  · cases qx; cases qy
    exact .inl ⟨_, _, rfl, rfl, hp ρ H .refl r _ (.int _)⟩
  · cases qx; cases qy
    split at hp
    · rename_i z
      exact .inr (.inl ⟨_, _, rfl, rfl, by rw [sizeLine_eq]; exact z, hp ρ H .refl r _ (.str _)⟩)
    · exact hp.elim
  · rename_i G2 xs ys
    split at hp
    · rename_i z2
      have qx' := qx
      have qy' := qy
      obtain ⟨a, vs, rfl, hs, q1⟩ := relW_tup qx
      obtain ⟨b, us, rfl, hs', q2⟩ := relW_tup qy
      have l1 := q1.length
      have l2 := q2.length
      refine .inr (.inr (.inr ⟨a, b, vs, us, rfl, rfl, hs, hs', by rw [sizeLine_eq]; omega, fun e => ?_, fun _ e => ?_, fun _ _ p hn => hp ρ _ (.laid hn) (r.laid hn) _ (RelW.tup' (.of upd_same) (relWs_app (relWs_ext q1 r (.laid hn)) (relWs_ext q2 r (.laid hn))))⟩))
      · subst e
        have : xs = [] := by cases q1; rfl
        subst this
        exact hp ρ H .refl r _ qy'
      · subst e
        have : ys = [] := by cases q2; rfl
        subst this
        rw [List.append_nil] at hp
        exact hp ρ H .refl r _ qx'
    · exact hp.elim
  · cases e1 : wrl s G with
    | none => rw [e1] at hp; exact hp.elim
    | some xs =>
      cases e2 : wrl t G with
      | none => rw [e1, e2] at hp; exact hp.elim
      | some ys =>
        rw [e1, e2] at hp
        dsimp only at hp
        split at hp
        · rename_i z
          obtain ⟨a, vs, rfl, ha, q1⟩ := wrl_of r qx e1
          obtain ⟨b, us, rfl, hb, q2⟩ := wrl_of r qy e2
          have l1 := q1.length
          have l2 := q2.length
          exact .inr (.inr (.inl ⟨a, b, vs, us, rfl, rfl, ha, hb, by rw [sizeLine_eq]; omega, fun p hn => hp ρ _ (.laid hn) (r.laid hn) _ (fresh_tmp r hn (relWs_app q1 q2))⟩))
        · exact hp.elim
def rMulS : R2 := fun x y H Q => ∃ a n, x = .str a ∧ y = .int n ∧ -(2 ^ 63) ≤ n ∧ n < 2 ^ 63 ∧ a.length * n.toNat ≤ 16777216 ∧ (repS a n).length ≤ 16777216 ∧ Q (.str (repS a n)) H
def rMulA (K : PySem.W.Frag) : R2 := fun x y H Q => rI CMulX (fun i j => .int (i * j)) x y H Q ∨ rRep x y H Q ∨ rRepT K x y H Q ∨ rMulS x y H Q ∨ rOneT K x y H Q
theorem op_mulS : OpR X (binaryOp .Mult) rMulS := by
  intro pins s σ H x y v u Q I rx ry h
  obtain ⟨a, n, rfl, rfl, h1, h2, h3, h4, q⟩ := h
  obtain ⟨t, rfl⟩ := rx
  obtain ⟨t', rfl⟩ := ry
  have hsl := sizeLine_eq
  refine PySem.P.mul_str (by rw [decide_eq_false (by omega), decide_eq_false (by omega)]; rfl) (fun hn _ => ?_) (fun hn _ => ?_) ?_
  · have hn' : 0 < n := by omega
    have : (a.length : Int) * n ≤ 2 ^ 63 - 1 := by
      have e : (a.length : Int) * n = ((a.length * n.toNat : Nat) : Int) := by
        rw [Int.natCast_mul, Int.toNat_of_nonneg (by omega)]
      rw [e]; omega
    have := Int.le_ediv_of_mul_le hn' this
    omega
  · unfold Builtin.Str.tooLong
    exact decide_eq_false (by omega)
  · unfold repS at h4 q
    by_cases c1 : n < 1
    · rw [if_pos c1] at h4 q ⊢
      exact ⟨by rw [hsl]; exact h4, .str Str.empty, H, I.tok _, ⟨_, rfl⟩, q⟩
    · rw [if_neg c1] at h4 q ⊢
      by_cases c2 : (n == 1 || a.length == 0) = true
      · rw [if_pos c2] at h4 q ⊢
        exact ⟨.str a, H, I, ⟨_, rfl⟩, q⟩
      · rw [if_neg c2] at h4 q ⊢
        exact ⟨by rw [hsl]; exact h4, .str _, H, I.tok _, ⟨_, rfl⟩, q⟩
theorem op_mulA : OpR X (binaryOp .Mult) (rMulA X.K) := op_mulX.or (op_rep.or (op_repT.or (op_mulS.or op_oneT)))
theorem says_mul : Says2 X ca (rMulA X.K) fMul := by
  intro Wx σ ρ G H H0 x y s t Q r qx qy hp
  unfold fMul at hp
  split at hp
  · cases qx; cases qy
    split at hp
    · rename_i z
      refine .inl ⟨_, _, rfl, rfl, ?_, hp ρ H .refl r _ (.int _)⟩
      have z' := of_decide_eq_true z
      unfold CMulX
      omega
    · exact hp.elim
  · split at hp
    · rename_i z
      subst z
      obtain ⟨a, vs, rfl, hs, q1⟩ := relW_tup qx
      cases qy
      exact .inr (.inr (.inr (.inr ⟨a, vs, rfl, rfl, hs, hp ρ H .refl r _ (RelW.tup' hs q1)⟩)))
    split at hp
    · rename_i z
      rw [Bool.and_eq_true, Bool.and_eq_true, Bool.and_eq_true] at z
      obtain ⟨a, vs, rfl, hs, q1⟩ := relW_tup qx
      cases qy
      have l1 := q1.length
      have n1 : vs ≠ [] := fun e => by subst e; cases q1; simp at z
      refine .inr (.inr (.inl ⟨a, _, vs, rfl, rfl, hs, n1, of_decide_eq_true z.1.1.2, of_decide_eq_true z.1.2, by rw [l1]; exact of_decide_eq_true z.2, fun p hn => hp ρ _ (.laid hn) (r.laid hn) _ (RelW.tup' (.of upd_same) (relWs_rep (relWs_ext q1 r (.laid hn)) _))⟩))
    · exact hp.elim
  · cases qx; cases qy
    split at hp
    · rename_i z
      unfold repOk at z
      rw [Bool.and_eq_true, Bool.and_eq_true, Bool.and_eq_true] at z
      exact .inr (.inr (.inr (.inl ⟨_, _, rfl, rfl, of_decide_eq_true z.1.1.1, of_decide_eq_true z.1.1.2, of_decide_eq_true z.1.2, of_decide_eq_true z.2, hp ρ H .refl r _ (.str _)⟩)))
    · exact hp.elim
  · cases e1 : wrl s G with
    | none => rw [e1] at hp; exact hp.elim
    | some xs =>
      rw [e1] at hp
      dsimp only at hp
      split at hp
      · rename_i z
        rw [Bool.and_eq_true, Bool.and_eq_true] at z
        obtain ⟨a, vs, rfl, ha, q1⟩ := wrl_of r qx e1
        cases qy
        have l1 := q1.length
        refine .inr (.inl ⟨a, _, vs, rfl, rfl, ha, of_decide_eq_true z.1.1, of_decide_eq_true z.1.2, by rw [sizeLine_eq, l1]; exact of_decide_eq_true z.2, fun p hn => hp ρ _ (.laid hn) (r.laid hn) _ (fresh_tmp r hn (relWs_rep q1 _))⟩)
      · exact hp.elim
  · exact hp.elim
end
end Sy
set_option Elab.async false
set_option linter.all false
set_option maxRecDepth 100000
set_option maxHeartbeats 4000000
namespace Sy
open PySem PySem.Spec PyProof.Rows L2

/-! statements by computations -/
def R.toS {α : Type} (r : R α) (τ : Sl) (k : α → GH → RS) : RS := match r with
  | .ok a G => k a G
  | .ex c fs G => .ex c fs τ G
  | .bad => .bad
@[simp] theorem R.toS_ok {α : Type} (a : α) (G : GH) (τ : Sl) (k : α → GH → RS) : (R.ok a G).toS τ k = k a G := (rfl)
@[simp] theorem R.toS_ex {α : Type} (c : Nat) (fs) (G : GH) (τ : Sl) (k : α → GH → RS) : (R.ex c fs G : R α).toS τ k = .ex c fs τ G := (rfl)
@[simp] theorem R.toS_bad {α : Type} (τ : Sl) (k : α → GH → RS) : (R.bad : R α).toS τ k = .bad := (rfl)
def RS.andThen (r : RS) (k : MS) : RS := match r with
  | .nx τ G => k τ G
  | r => r
@[simp] theorem RS.then_nx (τ : Sl) (G : GH) (k : MS) : (RS.nx τ G).andThen k = k τ G := (rfl)
@[simp] theorem RS.then_rt (w : W) (G : GH) (k : MS) : (RS.rt w G).andThen k = .rt w G := (rfl)
@[simp] theorem RS.then_bk (τ : Sl) (G : GH) (k : MS) : (RS.bk τ G).andThen k = .bk τ G := (rfl)
@[simp] theorem RS.then_ct (τ : Sl) (G : GH) (k : MS) : (RS.ct τ G).andThen k = .ct τ G := (rfl)
@[simp] theorem RS.then_ex (c fs) (τ : Sl) (G : GH) (k : MS) : (RS.ex c fs τ G).andThen k = .ex c fs τ G := (rfl)
@[simp] theorem RS.then_bad (k : MS) : RS.bad.andThen k = .bad := (rfl)
def sNext : MS := fun τ G => .nx τ G
def sSeq (a b : MS) : MS := fun τ G => (a τ G).andThen b
def sDrop (m : M T) : MS := fun τ G => (m τ G).toS τ fun _ G1 => .nx τ G1
def sRet (m : M T) : MS := fun τ G => (mF m τ G).toS τ fun w G1 => .rt w G1
def sRetN : MS := fun τ G => .rt .non G
def sBrk : MS := fun τ G => .bk τ G
def sCt : MS := fun τ G => .ct τ G
def sIf (c : M Bool) (a b : MS) : MS := fun τ G => (c τ G).toS τ fun x G1 => if x then a τ G1 else b τ G1
def sSet (i : Nat) (m : M T) : MS := fun τ G => (mF m τ G).toS τ fun w G1 => .nx (τ.set i (some w)) G1
def sAug (i : Nat) (f : T → T → GH → R T) (m : M T) : MS := fun τ G => (mVar i τ G).toS τ fun x G0 => (m τ G0).toS τ fun y G1 => ((f x y G1).bind force).toS τ fun w G2 => .nx (τ.set i (some w)) G2

section
variable {X : Cx} {ca : Nat → Addr} {Wx : WX} {D : Ends} {σ : SSt} {H : Hp} {ρ : List Addr} {G : GH} {τ : Sl}
theorem PostS.of {α : Type} {r : R α} {k : α → GH → RS} (s : RelS X.K ca ρ H σ τ) (r0 : Rep X.K ca ρ G H) (h : PostS X.K ca Wx D ρ H (r.toS τ k)) : Post X.K ca Wx σ ρ H (fun a G1 ρ1 H1 => PostS X.K ca Wx D ρ1 H1 (k a G1)) r := by
  cases r with
  | ok a G1 => exact fun ρ1 H1 x r1 => PostS.later h x
  | ex c fs G1 => exact fun ρ1 H1 d x r1 e => h ρ1 H1 d σ x r1 (s.ext r0 x) e
  | bad => exact h
theorem tE.seqS {m : M T} {k : T → GH → RS} {Q : VK} (r : Rep X.K ca ρ G H) (s : RelS X.K ca ρ H σ τ) (h : PostS X.K ca Wx D ρ H ((m τ G).toS τ k))
    (hk : ∀ t G1 ρ1 H1 v, Ext ρ H ρ1 H1 → Rep X.K ca ρ1 G1 H1 → RelS X.K ca ρ1 H1 σ τ → RelT X.K ca H ρ1 H1 v t → PostS X.K ca Wx D ρ1 H1 (k t G1) → Q v H1) : tE X.K ca Wx m σ H Q :=
  ⟨ρ, G, τ, r, s, (PostS.of s r h).imp fun t G1 ρ1 H1 x r1 q v rv => hk t G1 ρ1 H1 v x r1 (s.ext r x) rv q⟩
theorem tT.seqS {m : M Bool} {k : Bool → GH → RS} {Q : Bool → Hp → Prop} (r : Rep X.K ca ρ G H) (s : RelS X.K ca ρ H σ τ) (h : PostS X.K ca Wx D ρ H ((m τ G).toS τ k))
    (hk : ∀ b G1 ρ1 H1, Ext ρ H ρ1 H1 → Rep X.K ca ρ1 G1 H1 → RelS X.K ca ρ1 H1 σ τ → PostS X.K ca Wx D ρ1 H1 (k b G1) → Q b H1) : tT X.K ca Wx m σ H Q :=
  ⟨ρ, G, τ, r, s, (PostS.of s r h).imp fun b G1 ρ1 H1 x r1 q => hk b G1 ρ1 H1 x r1 (s.ext r x) q⟩
theorem forceS_ok {t1 : T} {G1 : GH} {ρ0 ρ1 : List Addr} {H0 H1 : Hp} {v1 : V} {k : W → GH → RS} (x : Ext ρ0 H0 ρ1 H1) (r1 : Rep X.K ca ρ1 G1 H1) (q1 : RelT X.K ca H0 ρ1 H1 v1 t1) (h : PostS X.K ca Wx D ρ0 H0 ((force t1 G1).toS τ k)) :
    ∃ w G2 ρ2, Ext ρ0 H0 ρ2 H1 ∧ Rep X.K ca ρ2 G2 H1 ∧ RelW X.K ca ρ2 H1 v1 w ∧ (∀ (n : Nat) a, ρ1[n]? = some a → ρ2[n]? = some a) ∧ PostS X.K ca Wx D ρ2 H1 (k w G2) := by
  cases t1 with
  | val w => exact ⟨w, G1, ρ1, x, r1, q1, fun _ _ e => e, PostS.later h x⟩
  | tmp ws =>
    obtain ⟨p, vs, e, hn, h0, hp, hv⟩ := q1
    subst e
    have y := x.take h0
    refine ⟨.loc G1.length, G1 ++ [.lst ws], ρ1 ++ [p], y, r1.take hn hp hv, .loc ?_, fun n a e => ?_, PostS.later h y⟩
    · rw [← r1.len]
      simp
    · rw [List.getElem?_append_left (List.getElem?_eq_some_iff.mp e).1]; exact e
theorem tE.seqFS {m : M T} {k : W → GH → RS} {Q : VK} (r : Rep X.K ca ρ G H) (s : RelS X.K ca ρ H σ τ) (h : PostS X.K ca Wx D ρ H ((mF m τ G).toS τ k))
    (hk : ∀ w G1 ρ1 H1 v, Ext ρ H ρ1 H1 → Rep X.K ca ρ1 G1 H1 → RelS X.K ca ρ1 H1 σ τ → RelW X.K ca ρ1 H1 v w → PostS X.K ca Wx D ρ1 H1 (k w G1) → Q v H1) : tE X.K ca Wx m σ H Q := by
  have h2 : PostS X.K ca Wx D ρ H ((m τ G).toS τ fun t G1 => (force t G1).toS τ k) := by
    unfold mF at h
    cases e : m τ G with
    | ok t G1 => rw [e] at h; exact h
    | ex c fs G1 => rw [e] at h; exact h
    | bad => rw [e] at h; exact h
  refine ⟨ρ, G, τ, r, s, ?_⟩
  cases e : m τ G with
  | ok t G1 =>
    rw [e] at h2
    intro ρ1 H1 x1 r1 v q1
    obtain ⟨w, G2, ρ2, y, r2, q2, pre, h3⟩ := forceS_ok x1 r1 q1 h2
    exact hk w G2 ρ2 H1 v y r2 ((s.ext r x1).pre pre) q2 h3
  | ex c fs G1 =>
    rw [e] at h2
    exact PostS.of (k := fun t G1 => (force t G1).toS τ k) (r := .ex c fs G1) s r h2
  | bad => rw [e] at h2; exact h2

variable {st : Stmt} {rest : List Stmt} {e : Expr} {m1 m2 : MS} {m : M T} {pos : Pos}
theorem b_nil : PSs X [] (tS X.K ca Wx sNext) := PSs.weak pss_nil fun D σ H ⟨ρ, G, τ, r, s, h⟩ => h ρ H σ .refl r s
theorem b_cons (h1 : PS X st (tS X.K ca Wx m1)) (h2 : PSs X rest (tS X.K ca Wx m2)) : PSs X (st :: rest) (tS X.K ca Wx (sSeq m1 m2)) := by
  refine PSs.weak (pss_cons h1 h2) fun D σ H ⟨ρ, G, τ, r, s, h⟩ => ⟨ρ, G, τ, r, s, ?_⟩
  unfold sSeq at h
  cases e : m1 τ G with
  | nx τ1 G1 => rw [e] at h; exact fun ρ' H' σ' x r' s' => ⟨ρ', G1, τ1, r', s', PostS.later h x⟩
  | rt w G1 => rw [e] at h; exact h
  | bk τ1 G1 => rw [e] at h; exact h
  | ct τ1 G1 => rw [e] at h; exact h
  | ex c fs τ1 G1 => rw [e] at h; exact h
  | bad => rw [e] at h; exact h
theorem b_one (h1 : PS X st (tS X.K ca Wx m1)) : PSs X [st] (tS X.K ca Wx m1) := pss_one h1
theorem s_pass : PS X (.Pass pos) (tS X.K ca Wx sNext) := PS.weak ps_pass fun D σ H ⟨ρ, G, τ, r, s, h⟩ => h ρ H σ .refl r s
theorem s_doc {x j pos pos'} : PS X (.Expr (.Constant (.str x) j pos) pos') (tS X.K ca Wx sNext) := PS.weak ps_doc fun D σ H ⟨ρ, G, τ, r, s, h⟩ => h ρ H σ .refl r s
theorem s_break : PS X (.Break pos) (tS X.K ca Wx sBrk) := PS.weak ps_break fun D σ H ⟨ρ, G, τ, r, s, h⟩ => h ρ H σ .refl r s
theorem s_continue : PS X (.Continue pos) (tS X.K ca Wx sCt) := PS.weak ps_continue fun D σ H ⟨ρ, G, τ, r, s, h⟩ => h ρ H σ .refl r s
theorem s_expr (he : PE X e (tE X.K ca Wx m)) (hs : swapsWith e none pos.line X.env = pure false := by rfl) : PS X (.Expr e pos) (tS X.K ca Wx (sDrop m)) := by
  refine PS.weak (ps_expr he hs) fun D σ H ⟨ρ, G, τ, r, s, h⟩ => ?_
  exact tE.seqS r s h fun t G1 ρ1 H1 v x1 r1 s1 q1 h1 => h1 ρ1 H1 σ .refl r1 s1
theorem s_ret (he : PE X e (tE X.K ca Wx m)) : PS X (.Return (some e) pos) (tS X.K ca Wx (sRet m)) := by
  refine PS.weak (ps_ret he) fun D σ H ⟨ρ, G, τ, r, s, h⟩ => ?_
  exact tE.seqFS r s h fun w G1 ρ1 H1 v x1 r1 s1 q1 h1 => h1 ρ1 H1 v .refl r1 q1
theorem s_retN : PS X (.Return none pos) (tS X.K ca Wx sRetN) := PS.weak ps_retN fun D σ H ⟨ρ, G, τ, r, s, h⟩ => h ρ H .non .refl r .non
theorem s_if {c : Expr} {a b : List Stmt} {mc : M Bool} (hc : PT X c (tT X.K ca Wx mc)) (ha : PSs X a (tS X.K ca Wx m1)) (hb : PSs X b (tS X.K ca Wx m2)) : PS X (.If c a b pos) (tS X.K ca Wx (sIf mc m1 m2)) := by
  refine PS.weak (ps_if hc ha hb) fun D σ H ⟨ρ, G, τ, r, s, h⟩ => ?_
  refine tT.seqS r s h fun b G1 ρ1 H1 x1 r1 s1 h1 => ?_
  cases b with
  | true => exact ⟨ρ1, G1, τ, r1, s1, h1⟩
  | false => exact ⟨ρ1, G1, τ, r1, s1, h1⟩
theorem set_of {i : Nat} {D : Ends} {σ : SSt} {H : Hp} (h : tS X.K ca Wx (sSet i m) D σ H) : tAsg (tE X.K ca Wx m) (gName i) D σ H := by
  obtain ⟨ρ, G, τ, r, s, h⟩ := h
  exact tE.seqFS r s h fun w G1 ρ1 H1 v x1 r1 s1 q1 h1 => h1 ρ1 H1 _ .refl r1 (s1.set i q1)
theorem s_set {i : Nat} {x : Str} {pos' : Pos} (hN : X.N.Nodup) (hi : X.N[i]? = some x) (hx : Loc X.env.scope x) (he : PE X e (tE X.K ca Wx m)) (hs : swapsWith e (some (.Name x pos')) pos.line X.env = pure false := by rfl)
    (hf : X.fn x = true ∨ X.env.scope.names.lookup x = some .local := by first | exact .inl rfl | exact .inr rfl | assumption) : PS X (.Assign [.Name x pos'] e pos) (tS X.K ca Wx (sSet i m)) :=
  PS.weak (ps_set hN hi hx he hs hf) fun D σ H h => set_of h
/-- x op= e, by values -/
def SaysIp (X : Cx) (ca : Nat → Addr) (r : TIp) (f : T → T → GH → R T) : Prop := Says2 X ca r f
theorem mVar_ok {α : Type} {i : Nat} {k : T → GH → RS} (s : RelS X.K ca ρ H σ τ) (h : PostS X.K ca Wx D ρ H ((mVar i τ G).toS τ k)) : ∃ w v, τ[i]? = some (some w) ∧ σ[i]? = some (some v) ∧ RelW X.K ca ρ H v w ∧ PostS X.K ca Wx D ρ H (k (.val w) G) := by
  unfold mVar at h
  cases e : τ[i]? with
  | none => rw [e] at h; exact h.elim
  | some o =>
    cases o with
    | none => rw [e] at h; exact h.elim
    | some w =>
      rw [e] at h
      obtain ⟨v, e1, q⟩ := s.2 i w e
      exact ⟨w, v, rfl, e1, q, h⟩
theorem s_aug {i : Nat} {x : Str} {op : Operator} {ti : TIp} {f : T → T → GH → R T} {pos' : Pos} (hN : X.N.Nodup) (hi : X.N[i]? = some x) (hx : Loc X.env.scope x) (he : PE X e (tE X.K ca Wx m)) (ho : PIp X op ti) (hs : Says2 X ca ti f)
    (hf : X.fn x = true ∨ X.env.scope.names.lookup x = some .local := by first | exact .inl rfl | exact .inr rfl | assumption) :
    PS X (.AugAssign (.Name x pos') op e pos) (tS X.K ca Wx (sAug i f m)) := by
  refine PS.weak (ps_aug hN hi hx he ho hf) fun D σ H ⟨ρ, G, τ, r, s, h⟩ => ?_
  obtain ⟨w, v, _, e1, q, h⟩ := mVar_ok (α := T) s h
  refine ⟨v, e1, tE.seqS r s h fun t G1 ρ1 H1 y x1 r1 s1 q1 h1 => ?_⟩
  refine hs Wx σ ρ1 G1 H1 H v y (.val w) t _ r1 (q.ext r x1) q1 ?_
  -- the sum, forced
  cases e : f (.val w) t G1 with
  | ok u G2 =>
    rw [e] at h1
    intro ρ2 H2 x2 r2 z qz
    obtain ⟨w3, G3, ρ3, y3, r3, q3, pre, h3⟩ := forceS_ok x2 r2 qz h1
    exact h3 ρ3 H2 _ .refl r3 (((s1.ext r1 x2).pre pre).set i q3)
  | ex c fs G2 => rw [e] at h1; exact PostS.of (k := fun w G2 => .nx (τ.set i (some w)) G2) (r := .ex c fs G2) s1 r1 h1
  | bad => rw [e] at h1; exact h1
end

/-! while -/
def whileF (c : M Bool) (b : MS) : Nat → Sl → GH → RS
  | 0, _, _ => .bad
  | f + 1, τ, G => (c τ G).toS τ fun x G1 => if x then match b τ G1 with
      | .nx τ2 G2 => whileF c b f τ2 G2
      | .ct τ2 G2 => whileF c b f τ2 G2
      | .bk τ2 G2 => .nx τ2 G2
      | .rt w G2 => .rt w G2
      | .ex e fs τ2 G2 => .ex e fs τ2 G2
      | .bad => .bad
    else .nx τ G1
section
variable {X : Cx} {ca : Nat → Addr} {Wx : WX} {pos : Pos}
theorem s_while {c : Expr} {body : List Stmt} {mc : M Bool} {mb : MS} {n : Nat} (hp : PassesOwn (model X.prog X.w) X.A X.env X.xe) (hc : PT X c (tT X.K ca Wx mc)) (hb : PSs X body (tS X.K ca Wx mb)) :
    PS X (.While c body [] pos) (tS X.K ca Wx (whileF mc mb n)) := by
  refine PS.weak (ps_while hp hc hb) fun D σ H ⟨ρ, G, τ, r, s, h⟩ => ?_
  refine ⟨fun m σ H => ∃ ρ G τ, Rep X.K ca ρ G H ∧ RelS X.K ca ρ H σ τ ∧ PostS X.K ca Wx D ρ H (whileF mc mb m τ G), ⟨n, ρ, G, τ, r, s, h⟩, ?_⟩
  rintro m σ1 H1 ⟨ρ1, G1, τ1, r1, s1, h1⟩
  cases m with
  | zero => exact h1.elim
  | succ m =>
    refine tT.seqS r1 s1 h1 fun b G2 ρ2 H2 x2 r2 s2 h2 => ?_
    cases b with
    | false =>
      rw [if_neg Bool.false_ne_true] at h2 ⊢
      exact h2 ρ2 H2 σ1 .refl r2 s2
    | true =>
      rw [if_pos rfl] at h2 ⊢
      refine ⟨fun σ' H' => ∃ ρ G τ, Rep X.K ca ρ G H' ∧ RelS X.K ca ρ H' σ' τ ∧ PostS X.K ca Wx D ρ H' (whileF mc mb m τ G), fun σ' H' hw => ⟨m, Nat.lt_succ_self m, hw⟩, ρ2, G2, τ1, r2, s2, ?_⟩
      cases e : mb τ1 G2 with
      | nx τ3 G3 => rw [e] at h2; exact fun ρ' H' σ' x r s => ⟨ρ', G3, τ3, r, s, PostS.later h2 x⟩
      | ct τ3 G3 => rw [e] at h2; exact fun ρ' H' σ' x r s => ⟨ρ', G3, τ3, r, s, PostS.later h2 x⟩
      | bk τ3 G3 => rw [e] at h2; exact h2
      | rt w G3 => rw [e] at h2; exact h2
      | ex c fs τ3 G3 => rw [e] at h2; exact h2
      | bad => rw [e] at h2; exact h2
end

/-! what a for walks: the items, and the lists that must stand still -/
abbrev Src := List (Nat × List W)
open Classical in
noncomputable def still (src : Src) (G : GH) : Bool := decide (∀ p ∈ src, G[p.1]?.bind GO.rd = some p.2)
open Classical in
theorem still_iff {src : Src} {G : GH} : still src G = true ↔ ∀ p ∈ src, G[p.1]?.bind GO.rd = some p.2 := by
  unfold still
  exact decide_eq_true_iff
@[simp] theorem still_nil {G : GH} : still [] G = true := still_iff.mpr fun _ h => by cases h
section
variable (K : PySem.W.Frag) (ca : Nat → Addr)
/-- the walk J yields these items while the lists stand still -/
def ItOk (J : It) (its : List W) (src : Src) (ρ : List Addr) (H : Hp) : Prop :=
  ∀ (i : Nat) ρ' (G' : GH) H', Ext ρ H ρ' H' → Rep K ca ρ' G' H' → still src G' = true →
    (∀ w, its[i]? = some w → J.go i H' ∧ ∀ x H2, J.yld i H' x H2 → Ext ρ' H' ρ' H2 ∧ Rep K ca ρ' G' H2 ∧ RelW K ca ρ' H2 x w) ∧ (its.length ≤ i → J.stop i H')
def tI (Wx : WX) (m : M (List W × Src)) : TI := fun σ H R => ∃ ρ G τ, Rep K ca ρ G H ∧ RelS K ca ρ H σ τ ∧
  Post K ca Wx σ ρ H (fun p _ ρ' H' => ∀ J, ItOk K ca J p.1 p.2 ρ' H' → R J H') (m τ G)
end
/-- a target -/
abbrev MG := W → Sl → Option Sl
def tG (K : PySem.W.Frag) (ca : Nat → Addr) (g : MG) : TG := fun v σ H Q => ∃ ρ G τ w, Rep K ca ρ G H ∧ RelS K ca ρ H σ τ ∧ RelW K ca ρ H v w ∧ ∃ τ', g w τ = some τ' ∧ ∀ ρ' H' σ', Ext ρ H ρ' H' → Rep K ca ρ' G H' → RelS K ca ρ' H' σ' τ' → Q σ' H'
noncomputable def forL (src : Src) (g : MG) (b : MS) : List W → Sl → GH → RS
  | [], τ, G => if still src G then .nx τ G else .bad
  | w :: ws, τ, G => if still src G then match g w τ with
      | none => .bad
      | some τ1 => match b τ1 G with
        | .nx τ2 G2 => forL src g b ws τ2 G2
        | .ct τ2 G2 => forL src g b ws τ2 G2
        | .bk τ2 G2 => .nx τ2 G2
        | .rt w G2 => .rt w G2
        | .ex e fs τ2 G2 => .ex e fs τ2 G2
        | .bad => .bad
    else .bad
noncomputable def sFor (m : M (List W × Src)) (g : MG) (b : MS) : MS := fun τ G => (m τ G).toS τ fun p G1 => forL p.2 g b p.1 τ G1
def gN (i : Nat) : MG := fun w τ => some (τ.set i (some w))
section
variable {X : Cx} {ca : Nat → Addr} {Wx : WX} {pos : Pos}
theorem g_name {i : Nat} {x : Str} (hN : X.N.Nodup) (hi : X.N[i]? = some x) (hx : Loc X.env.scope x) (hf : X.fn x = true ∨ X.env.scope.names.lookup x = some .local := by first | exact .inl rfl | exact .inr rfl | assumption) : PG X (.Name x pos) (tG X.K ca (gN i)) := by
  refine ⟨fun pins s σ H v u Q I rv h => (pg_name hN hi hx hf).run pins s σ H v u Q I rv ?_⟩
  obtain ⟨ρ, G, τ, w, r, s, q, τ', e, h⟩ := h
  cases e
  exact h ρ H _ .refl r (s.set i q)
theorem s_for {tg iter : Expr} {body : List Stmt} {mi : M (List W × Src)} {g : MG} {mb : MS} (hp : PassesOwn (model X.prog X.w) X.A X.env X.xe) (hc : X.calm = true) (hi : PI X tg iter (tI X.K ca Wx mi)) (hg : PG X tg (tG X.K ca g)) (hb : PSs X body (tS X.K ca Wx mb))
    (hs : ∀ x, foldedSetIterable iter X.env x = pure x := by intro _; rfl) : PS X (.For tg iter body [] pos) (tS X.K ca Wx (sFor mi g mb)) := by
  refine PS.weak (ps_for hp hc hi hg hb hs) fun D σ H ⟨ρ, G, τ, r, s, h⟩ => ?_
  refine ⟨ρ, G, τ, r, s, (PostS.of s r h).imp fun p G1 ρ1 H1 x1 r1 h1 J hJ => ?_⟩
  obtain ⟨its, src⟩ := p
  refine ⟨fun i m σ' H' => m = its.length - i ∧ i ≤ its.length ∧ ∃ ρ' G' τ', Ext ρ1 H1 ρ' H' ∧ Rep X.K ca ρ' G' H' ∧ RelS X.K ca ρ' H' σ' τ' ∧ PostS X.K ca Wx D ρ' H' (forL src g mb (its.drop i) τ' G'),
    ⟨its.length, rfl, Nat.zero_le _, ρ1, G1, τ, .refl, r1, s.ext r x1, h1⟩, ?_⟩
  rintro i m σ2 H2 ⟨rfl, hi, ρ2, G2, τ2, x2, r2, s2, h2⟩
  by_cases hlt : i < its.length
  · rw [List.drop_eq_getElem_cons hlt] at h2
    unfold forL at h2
    cases hs : still src G2 with
    | false => rw [hs] at h2; exact h2.elim
    | true =>
      rw [hs, if_pos rfl] at h2
      obtain ⟨hgo, _⟩ := hJ i ρ2 G2 H2 x2 r2 hs
      obtain ⟨go, yl⟩ := hgo its[i] (List.getElem?_eq_getElem hlt)
      refine .inr ⟨go, fun σ' H' => ∃ ρ' G' τ', Ext ρ1 H1 ρ' H' ∧ Rep X.K ca ρ' G' H' ∧ RelS X.K ca ρ' H' σ' τ' ∧ PostS X.K ca Wx D ρ' H' (forL src g mb (its.drop (i + 1)) τ' G'),
        fun σ' H' hw => ⟨its.length - (i + 1), by omega, rfl, hlt, hw⟩, fun x H3 hy => ?_⟩
      obtain ⟨x3, r3, q3⟩ := yl x H3 hy
      cases e : g its[i] τ2 with
      | none => rw [e] at h2; exact h2.elim
      | some τ3 =>
        rw [e] at h2
        refine ⟨ρ2, G2, τ2, its[i], r3, s2.ext r2 x3, q3, τ3, e, fun ρ4 H4 σ4 x4 r4 s4 => ⟨ρ4, G2, τ3, r4, s4, ?_⟩⟩
        have x04 := (x2.trans x3).trans x4
        have x24 := x3.trans x4
        dsimp only at h2
        cases eb : mb τ3 G2 with
        | nx τ5 G5 => rw [eb] at h2; exact fun ρ' H' σ' x r s => ⟨ρ', G5, τ5, x04.trans x, r, s, PostS.later h2 (x24.trans x)⟩
        | ct τ5 G5 => rw [eb] at h2; exact fun ρ' H' σ' x r s => ⟨ρ', G5, τ5, x04.trans x, r, s, PostS.later h2 (x24.trans x)⟩
        | bk τ5 G5 => rw [eb] at h2; exact PostS.later (r := .nx τ5 G5) h2 x24
        | rt w G5 => rw [eb] at h2; exact PostS.later (r := .rt w G5) h2 x24
        | ex c fs τ5 G5 => rw [eb] at h2; exact PostS.later (r := .ex c fs τ5 G5) h2 x24
        | bad => rw [eb] at h2; exact h2
  · have e : i = its.length := by omega
    subst e
    rw [List.drop_length] at h2
    unfold forL at h2
    cases hs : still src G2 with
    | false => rw [hs] at h2; exact h2.elim
    | true =>
      rw [hs, if_pos rfl] at h2
      obtain ⟨_, hst⟩ := hJ its.length ρ2 G2 H2 x2 r2 hs
      exact .inl ⟨hst (Nat.le_refl _), h2 ρ2 H2 σ2 .refl r2 s2⟩
/-! what is walked -/
def srcOf : T → List W → Src
  | .val (.loc n), ws => [(n, ws)]
  | _, _ => []
def iterL (t : T) (G : GH) : R (List W × Src) := match rdl t G with
  | some ws => .ok (ws, srcOf t ws) G
  | none => .bad
def miL (m : M T) : M (List W × Src) := fun τ G => (m τ G).bind iterL
theorem still_one {n : Nat} {ws : List W} {G : GH} (h : still [(n, ws)] G = true) : G[n]?.bind GO.rd = some ws := by
  exact still_iff.mp h (n, ws) (List.mem_singleton.mpr rfl)
/-- the list stays to be read -/
theorem rdl_later {K : PySem.W.Frag} {ρ ρ' : List Addr} {G G' : GH} {H0 H H' : Hp} {v : V} {t : T} {ws : List W} (q : RelT K ca H0 ρ H v t) (h : rdl t G = some ws) (r : Rep K ca ρ G H) (x : Ext ρ H ρ' H') (r' : Rep K ca ρ' G' H') (hs : still (srcOf t ws) G' = true) :
    ∃ a vs, v = .ref a ∧ SqL K H' a vs ∧ RelWs K ca ρ' H' vs ws := by
  have h' : rdl t G' = some ws := by
    cases t with
    | tmp us => exact h
    | val w =>
      cases w with
      | loc n => exact still_one hs
      | _ => exact h
  exact rdl_of r' (q.ext r x) h'
theorem itl_ok {K : PySem.W.Frag} {ρ : List Addr} {G : GH} {H0 H : Hp} {a : Addr} {t : T} {ws : List W} (q : RelT K ca H0 ρ H (.ref a) t) (h : rdl t G = some ws) (r : Rep K ca ρ G H) : ItOk K ca (Itl K a) ws (srcOf t ws) ρ H := by
  intro i ρ' G' H' x r' hs
  obtain ⟨b, vs, e, hv, qs⟩ := rdl_later q h r x r' hs
  cases e
  refine ⟨fun w hw => ?_, fun hl => ⟨vs, hv, by rw [qs.length]; exact hl⟩⟩
  obtain ⟨v, e1, q1⟩ := relWs_get qs hw
  refine ⟨⟨vs, v, hv, e1⟩, fun y H2 hy => ?_⟩
  obtain ⟨rfl, hy⟩ := hy
  have e2 := hy vs hv
  rw [e1] at e2
  cases e2
  exact ⟨.refl, r', q1⟩
end
end Sy
set_option Elab.async false
set_option linter.all false
set_option maxRecDepth 100000
set_option maxHeartbeats 4000000
namespace Sy
open PySem PySem.Spec PyProof.Rows L2

/-! walks -/
section
variable {X : Cx} {ca : Nat → Addr} {Wx : WX} {pos : Pos} {tg : Expr}
theorem PI.weak {X : Cx} {tg e : Expr} {t t' : TI} (h : PI X tg e t) (f : ∀ σ H R, t' σ H R → t σ H R) : PI X tg e t' := ⟨fun pins s σ H R I q => h.run pins s σ H R I (f σ H R q)⟩
theorem it_lst {pins : List (Addr × Obj)} {σ : SSt} {H : Hp} {s : Shared} {R : It → Hp → Prop} {a : Addr} {vs : List V} (I : Inv X pins σ H s) (hq : SqL X.K H a vs) (q : R (Itl X.K a) H) :
    wpAny (model X.prog X.w) X.A (pyIter (.ref a)) (PIE X pins σ tg R) X.xe s := by
  obtain ⟨its, rv, p, hz⟩ := I.list hq
  refine wpAny_pyIter_list p.isList ?_
  have J : Inv X pins σ H { s with heap := s.heap.push { cls := .type "list_iterator", data := .fields #[.ref a, rawInt 0] } } := I.kept (t' := s.toks) fun b o e => Heap.get?_push_of_some _ e
  refine ⟨s.heap.objs.size, [s.heap.objs.size], _, _, H, rfl, J, turn_list a _, ⟨_, Heap.get?_push_size _ rfl, rfl, rfl⟩, fun b hb => ?_, q⟩
  obtain rfl : b = s.heap.objs.size := by simpa using hb
  exact I.fpOk (Nat.le_refl _) (I.hok.fresh (Nat.le_refl _))
theorem it_tpl {pins : List (Addr × Obj)} {σ : SSt} {H : Hp} {s : Shared} {R : It → Hp → Prop} {a : Addr} {vs : List V} (I : Inv X pins σ H s) (hq : SqT X.K H a vs) (q : R (Itt X.K a) H) :
    wpAny (model X.prog X.w) X.A (pyIter (.ref a)) (PIE X pins σ tg R) X.xe s := by
  obtain ⟨its, rv, p, hz⟩ := I.tuple hq
  refine wpAny_pyIter_tuple (show s.heap.IsTuple a its.toArray from p) ?_
  have J : Inv X pins σ H { s with heap := s.heap.push { cls := .type "tuple_iterator", data := .fields #[.ref a, rawInt 0] } } := I.kept (t' := s.toks) fun b o e => Heap.get?_push_of_some _ e
  refine ⟨s.heap.objs.size, [s.heap.objs.size], _, _, H, rfl, J, turn_tuple a _, ⟨_, Heap.get?_push_size _ rfl, rfl, rfl⟩, fun b hb => ?_, q⟩
  obtain rfl : b = s.heap.objs.size := by simpa using hb
  exact I.fpOk (Nat.le_refl _) (I.hok.fresh (Nat.le_refl _))
theorem it_txt {pins : List (Addr × Obj)} {σ : SSt} {H : Hp} {s : Shared} {R : It → Hp → Prop} {x : Str} {t : Tok} (I : Inv X pins σ H s) (q : R (Its x) H) :
    wpAny (model X.prog X.w) X.A (pyIter (.str x t)) (PIE X pins σ tg R) X.xe s := by
  cases ha : x.cps.all (· < 128)
  · exact wpAny_pyIter_wide ha (pi_one (tk := s.toks) I _ (turn_str _ x t "str_iterator" (.inr rfl)) ⟨_, Heap.get?_push_size _ rfl, rfl, rfl⟩ q)
  · exact wpAny_pyIter_ascii ha (pi_one (tk := s.toks) I _ (turn_str _ x t "str_ascii_iterator" (.inl rfl)) ⟨_, Heap.get?_push_size _ rfl, rfl, rfl⟩ q)
def signsW (x : Str) : List W := x.cps.toList.map fun c => .str ⟨#[c]⟩
/-- a list, a tuple, a text -/
def iterA (t : T) (G : GH) : R (List W × Src) := match t with
  | .tmp ws => .ok (ws, []) G
  | .val w => match w with
    | .tup ws => .ok (ws, []) G
    | .str x => .ok (signsW x, []) G
    | .frl ws => .ok (ws, []) G
    | .loc n => match rdw G (.loc n) with
      | some ws => .ok (ws, [(n, ws)]) G
      | none => .bad
    | _ => .bad
def miA (m : M T) : M (List W × Src) := fun τ G => (m τ G).bind iterA
theorem itt_ok {K : PySem.W.Frag} {ρ : List Addr} {G : GH} {H : Hp} {a : Addr} {vs : List V} {ws : List W} (r : Rep K ca ρ G H) (hv : SqT K H a vs) (q : RelWs K ca ρ H vs ws) : ItOk K ca (Itt K a) ws [] ρ H := by
  intro i ρ' G' H' x r' _
  have hv' := (r.stay x).sqT hv
  have q' := relWs_ext q r x
  refine ⟨fun w hw => ?_, fun hl => ⟨vs, hv', by rw [q.length]; exact hl⟩⟩
  obtain ⟨v, e1, q1⟩ := relWs_get q' hw
  refine ⟨⟨vs, v, hv', e1⟩, fun y H2 hy => ?_⟩
  obtain ⟨rfl, hy⟩ := hy
  have e2 := hy vs hv'
  rw [e1] at e2
  cases e2
  exact ⟨.refl, r', q1⟩
theorem its_ok {K : PySem.W.Frag} {ρ : List Addr} {H : Hp} {x : Str} : ItOk K ca (Its x) (signsW x) [] ρ H := by
  intro i ρ' G' H' e r' _
  have hl : (signsW x).length = x.cps.size := by unfold signsW; simp
  refine ⟨fun w hw => ?_, fun h => by show x.cps.size ≤ i; omega⟩
  have h1 : i < x.cps.size := by rw [← hl]; exact (List.getElem?_eq_some_iff.mp hw).1
  refine ⟨h1, fun y H2 hy => ?_⟩
  obtain ⟨rfl, c, hc, rfl⟩ := hy
  unfold signsW at hw
  rw [List.getElem?_map, Array.getElem?_toList, hc] at hw
  cases hw
  exact ⟨.refl, r', .str _⟩
theorem i_any {e : Expr} {m : M T} (he : PE X e (tE X.K ca Wx m)) : PI X tg e (tI X.K ca Wx (miA m)) := by
  refine ⟨fun pins s σ H R I ⟨ρ, G, τ, r, sl, h⟩ => ?_⟩
  refine thn (he.run pins s σ H (fun v H1 => ∃ ρ1 G1 t, RelT X.K ca H ρ1 H1 v t ∧ Rep X.K ca ρ1 G1 H1 ∧ Post X.K ca Wx σ ρ1 H1 (fun p _ ρ' H' => ∀ J, ItOk X.K ca J p.1 p.2 ρ' H' → R J H') (iterA t G1)) I ?_) fun u s1 hh => ?_
  · exact tE.seq r sl h fun t G1 ρ1 H1 v x1 r1 s1 q1 h1 => ⟨ρ1, G1, t, q1, r1, h1⟩
  · obtain ⟨v, H1, I1, rv, ρ1, G1, t, q1, r1, h1⟩ := hh
    cases t with
    | tmp ws =>
      obtain ⟨p, vs, rfl, hn, h0, hp, qs⟩ := q1
      cases rv
      exact it_lst I1 (.of hp) (h1 ρ1 H1 .refl r1 _ (itl_ok (t := .tmp ws) (H0 := H) ⟨p, vs, rfl, hn, h0, hp, qs⟩ rfl r1))
    | val w =>
      cases w with
      | tup ws =>
        obtain ⟨a, vs, rfl, hv, qs⟩ := relW_tup q1
        cases rv
        exact it_tpl I1 hv (h1 ρ1 H1 .refl r1 _ (itt_ok r1 hv qs))
      | frl ws =>
        obtain ⟨a, vs, rfl, hv, qs⟩ := relW_frl q1
        cases rv
        exact it_lst I1 hv.sq (h1 ρ1 H1 .refl r1 _ (itl_ok (t := .val (.frl ws)) (H0 := H) q1 rfl r1))
      | str x =>
        cases q1
        obtain ⟨t, rfl⟩ := rv
        exact it_txt I1 (h1 ρ1 H1 .refl r1 _ its_ok)
      | loc n =>
        cases e : rdw G1 (.loc n) with
        | none =>
          have h1' : Post X.K ca Wx σ ρ1 H1 (fun (p : List W × Src) _ ρ' H' => ∀ J, ItOk X.K ca J p.1 p.2 ρ' H' → R J H') (match rdw G1 (.loc n) with | some ws => .ok (ws, [(n, ws)]) G1 | none => .bad) := h1
          rw [e] at h1'
          exact h1'.elim
        | some ws =>
          have h1' : Post X.K ca Wx σ ρ1 H1 (fun (p : List W × Src) _ ρ' H' => ∀ J, ItOk X.K ca J p.1 p.2 ρ' H' → R J H') (match rdw G1 (.loc n) with | some ws => .ok (ws, [(n, ws)]) G1 | none => .bad) := h1
          rw [e] at h1'
          obtain ⟨a, vs, rfl, hv, qs⟩ := rdw_of r1 q1 e
          cases rv
          exact it_lst I1 hv (h1' ρ1 H1 .refl r1 _ (itl_ok (t := .val (.loc n)) (H0 := H) q1 e r1))
      | _ => exact h1.elim
/-! ranges -/
def rangeW (lo : Int) (n : Nat) : List W := (List.range n).map fun (i : Nat) => .int (lo + (i : Int))
theorem itr_ok {K : PySem.W.Frag} {ρ : List Addr} {H : Hp} {lo : Int} {n : Nat} : ItOk K ca (Itr lo n) (rangeW lo n) [] ρ H := by
  intro i ρ' G' H' e r' _
  have hl : (rangeW lo n).length = n := by unfold rangeW; simp
  refine ⟨fun w hw => ?_, fun h => by show n ≤ i; omega⟩
  have h1 : i < n := by rw [← hl]; exact (List.getElem?_eq_some_iff.mp hw).1
  refine ⟨h1, fun y H2 hy => ?_⟩
  obtain ⟨rfl, rfl⟩ := hy
  unfold rangeW at hw
  rw [List.getElem?_map, List.getElem?_range h1] at hw
  cases hw
  exact ⟨.refl, r', .int _⟩
def in62 (i : Int) : Bool := decide (-(2 ^ 62) ≤ i) && decide (i < 2 ^ 62)
def iterR (ws : List W) (G : GH) : R (List W × Src) := match ws with
  | [.int j] => if in62 j then .ok (rangeW 0 j.toNat, []) G else .bad
  | _ => .bad
def iterR2 (ws : List W) (G : GH) : R (List W × Src) := match ws with
  | [.int i, .int j] => if in62 i && in62 j then .ok (rangeW i (j - i).toNat, []) G else .bad
  | _ => .bad
def miR (m : M (List W)) : M (List W × Src) := fun τ G => (m τ G).bind iterR
def miR2 (m : M (List W)) : M (List W × Src) := fun τ G => (m τ G).bind iterR2
theorem relWs_one {K : PySem.W.Frag} {ρ : List Addr} {H : Hp} {vs : List V} {w : W} (q : RelWs K ca ρ H vs [w]) : ∃ v, vs = [v] ∧ RelW K ca ρ H v w := by
  cases q with
  | cons q t => cases t; exact ⟨_, rfl, q⟩
theorem relWs_two {K : PySem.W.Frag} {ρ : List Addr} {H : Hp} {vs : List V} {w u : W} (q : RelWs K ca ρ H vs [w, u]) : ∃ v z, vs = [v, z] ∧ RelW K ca ρ H v w ∧ RelW K ca ρ H z u := by
  cases q with
  | cons q t =>
    cases t with
    | cons q2 t2 => cases t2; exact ⟨_, _, rfl, q, q2⟩
theorem i_range1 {a : Expr} {m : M (List W)} {p : Pos} (hg : Gl X "range") (hm : X.mg "range" = none) (ha : PA X [a] (tA X.K ca Wx m)) (hs : starEach [a] X.env = [(false, eval a X.env)] := by rfl) : PI X tg (.Call (.Name "range" p) [a] [] pos) (tI X.K ca Wx (miR m)) := by
  refine PI.weak (pi_range1 hg hm ha hs) fun σ H R ⟨ρ, G, τ, r, sl, h⟩ => ?_
  refine tA.seq r sl h fun ws G1 ρ1 H1 vs x1 r1 s1 q1 h1 => ?_
  unfold iterR at h1
  split at h1
  · split at h1
    · rename_i j z
      obtain ⟨v, rfl, qv⟩ := relWs_one q1
      cases qv
      unfold in62 at z
      rw [Bool.and_eq_true] at z
      exact ⟨j, rfl, of_decide_eq_true z.1, of_decide_eq_true z.2, h1 ρ1 H1 .refl r1 _ itr_ok⟩
    · exact h1.elim
  · exact h1.elim
theorem i_range2 {a b : Expr} {m : M (List W)} {p : Pos} (hg : Gl X "range") (hm : X.mg "range" = none) (ha : PA X [a, b] (tA X.K ca Wx m)) (hs : starEach [a, b] X.env = [(false, eval a X.env), (false, eval b X.env)] := by rfl)
    (hs2 : starEach [b] X.env = [(false, eval b X.env)] := by rfl) : PI X tg (.Call (.Name "range" p) [a, b] [] pos) (tI X.K ca Wx (miR2 m)) := by
  refine PI.weak (pi_range2 hg hm ha hs hs2) fun σ H R ⟨ρ, G, τ, r, sl, h⟩ => ?_
  refine tA.seq r sl h fun ws G1 ρ1 H1 vs x1 r1 s1 q1 h1 => ?_
  unfold iterR2 at h1
  split at h1
  · split at h1
    · rename_i i j z
      obtain ⟨v, u, rfl, qv, qu⟩ := relWs_two q1
      cases qv
      cases qu
      unfold in62 at z
      rw [Bool.and_eq_true, Bool.and_eq_true, Bool.and_eq_true] at z
      exact ⟨i, j, rfl, ⟨of_decide_eq_true z.1.1, of_decide_eq_true z.1.2, of_decide_eq_true z.2.1, of_decide_eq_true z.2.2⟩, h1 ρ1 H1 .refl r1 _ itr_ok⟩
    · exact h1.elim
  · exact h1.elim

/-! arguments that nobody holds yet -/
abbrev RelTs (K : PySem.W.Frag) (ca : Nat → Addr) (H0 : Hp) (ρ : List Addr) (H : Hp) (vs : List V) (ts : List T) : Prop := Paired (RelT K ca H0 ρ H) vs ts
def tB (K : PySem.W.Frag) (ca : Nat → Addr) (Wx : WX) (m : M (List T)) : TA := fun σ H Q => ∃ ρ G τ, Rep K ca ρ G H ∧ RelS K ca ρ H σ τ ∧ Post K ca Wx σ ρ H (fun ts _ ρ' H' => ∀ vs, RelTs K ca H ρ' H' vs ts → Q vs H') (m τ G)
def mNilT : M (List T) := fun _ G => .ok [] G
def mConsT (a : M T) (r : M (List T)) : M (List T) := fun τ G => (a τ G).bind fun t G1 => (r τ G1).bind fun ts G2 => .ok (t :: ts) G2
theorem c_nil : PA X [] (tB X.K ca Wx mNilT) := PA.weak pa_nil fun σ H Q ⟨ρ, G, τ, r0, s0, h⟩ => h ρ H .refl r0 [] .nil
theorem c_cons {e : Expr} {es : List Expr} {m : M T} {ms : M (List T)} (he : PE X e (tE X.K ca Wx m)) (hr : PA X es (tB X.K ca Wx ms)) (hs : starEach (e :: es) X.env = (false, eval e X.env) :: starEach es X.env := by rfl) :
    PA X (e :: es) (tB X.K ca Wx (mConsT m ms)) := by
  refine PA.weak (pa_cons he hr hs) fun σ H Q ⟨ρ, G, τ, r0, s0, h⟩ => ?_
  refine tE.seq r0 s0 h fun t G1 ρ1 H1 v x1 r1 s1 q1 h1 => ?_
  refine ⟨ρ1, G1, τ, r1, s1, h1.bind.imp fun ts G2 ρ2 H2 x2 r2 h2 vs qs => ?_⟩
  exact h2 ρ2 H2 .refl r2 (v :: vs) (.cons (q1.ext r1 x2) (paired_imp qs fun _ _ z => z.back x1 x2))
theorem tB.seq {α : Type} {σ : SSt} {ρ : List Addr} {G : GH} {τ : Sl} {H : Hp} {m : M (List T)} {k : List T → GH → R α} {P : α → GH → List Addr → Hp → Prop} {Q : List V → Hp → Prop} (r : Rep X.K ca ρ G H) (s : RelS X.K ca ρ H σ τ) (h : Post X.K ca Wx σ ρ H P ((m τ G).bind k))
    (hk : ∀ ts G1 ρ1 H1 vs, Ext ρ H ρ1 H1 → Rep X.K ca ρ1 G1 H1 → RelS X.K ca ρ1 H1 σ τ → RelTs X.K ca H ρ1 H1 vs ts → Post X.K ca Wx σ ρ1 H1 P (k ts G1) → Q vs H1) : tB X.K ca Wx m σ H Q :=
  ⟨ρ, G, τ, r, s, h.bind.imp fun ws G1 ρ1 H1 x r1 q vs rv => hk ws G1 ρ1 H1 vs x r1 (s.ext r x) rv q⟩
theorem relTs_one {K : PySem.W.Frag} {ρ : List Addr} {H0 H : Hp} {vs : List V} {t : T} (q : RelTs K ca H0 ρ H vs [t]) : ∃ v, vs = [v] ∧ RelT K ca H0 ρ H v t := by
  cases q with
  | cons q t => cases t; exact ⟨_, rfl, q⟩
theorem relTs_two {K : PySem.W.Frag} {ρ : List Addr} {H0 H : Hp} {vs : List V} {t u : T} (q : RelTs K ca H0 ρ H vs [t, u]) : ∃ v z, vs = [v, z] ∧ RelT K ca H0 ρ H v t ∧ RelT K ca H0 ρ H z u := by
  cases q with
  | cons q t =>
    cases t with
    | cons q2 t2 => cases t2; exact ⟨_, _, rfl, q, q2⟩
/-! enumerate, zip, reversed -/
def enumW (ws : List W) : List W := (ws.zipIdx).map fun p => .tup [.int (p.2 : Int), p.1]
def zipW (ws us : List W) : List W := (ws.zip us).map fun p => .tup [p.1, p.2]
def iterE (ts : List T) (G : GH) : R (List W × Src) := match ts with
  | [t] => match rdl t G with
    | some ws => .ok (enumW ws, srcOf t ws) G
    | none => match rdt t with
      | some ws => .ok (enumW ws, []) G
      | none => .bad
  | _ => .bad
def iterZ (ts : List T) (G : GH) : R (List W × Src) := match ts with
  | [t, u] => match rdl t G, rdl u G with
    | some ws, some us => .ok (zipW ws us, srcOf t ws ++ srcOf u us) G
    | _, _ => match rdt t, rdt u with
      | some ws, some us => .ok (zipW ws us, []) G
      | _, _ => .bad
  | _ => .bad
def iterV (ts : List T) (G : GH) : R (List W × Src) := match ts with
  | [t] => match rdl t G with
    | some ws => .ok (ws.reverse, srcOf t ws) G
    | none => .bad
  | _ => .bad
def miB (f : List T → GH → R (List W × Src)) (m : M (List T)) : M (List W × Src) := fun τ G => (m τ G).bind f
theorem pair_new {K : PySem.W.Frag} {ρ : List Addr} {G : GH} {H : Hp} {p : Addr} {x y : V} {w u : W} (r : Rep K ca ρ G H) (hp : H p = none) (q : RelW K ca ρ H x w) (q2 : RelW K ca ρ H y u) :
    Ext ρ H ρ (upd H p (.tup [x, y])) ∧ Rep K ca ρ G (upd H p (.tup [x, y])) ∧ RelW K ca ρ (upd H p (.tup [x, y])) (.ref p) (.tup [w, u]) :=
  ⟨.laid hp, r.laid hp, RelW.tup' (.of upd_same) (.cons (q.ext r (.laid hp)) (.cons (q2.ext r (.laid hp)) .nil))⟩
theorem ite_ok {K : PySem.W.Frag} {ρ : List Addr} {G : GH} {H0 H : Hp} {a : Addr} {t : T} {ws : List W} (q : RelT K ca H0 ρ H (.ref a) t) (h : rdl t G = some ws) (r : Rep K ca ρ G H) : ItOk K ca (Ite K a) (enumW ws) (srcOf t ws) ρ H := by
  intro i ρ' G' H' x r' hs
  obtain ⟨b, vs, e, hv, qs⟩ := rdl_later q h r x r' hs
  cases e
  have hl : (enumW ws).length = ws.length := by unfold enumW; simp
  refine ⟨fun w hw => ?_, fun hl' => ⟨vs, hv, by rw [qs.length]; omega⟩⟩
  unfold enumW at hw
  rw [List.getElem?_map, List.getElem?_zipIdx] at hw
  cases e0 : ws[i]? with
  | none => rw [e0] at hw; cases hw
  | some w0 =>
    rw [e0] at hw
    have hw' : W.tup [.int ((0 + i : Nat) : Int), w0] = w := by simpa using hw
    obtain ⟨v, e1, q1⟩ := relWs_get qs e0
    refine ⟨⟨vs, v, hv, e1⟩, fun y H2 hy => ?_⟩
    obtain ⟨T, z, rfl, hT, rfl, hy⟩ := hy
    have e2 := hy vs hv
    rw [e1] at e2
    cases e2
    rw [← hw', Nat.zero_add]
    exact pair_new r' hT (.int _) q1
theorem iteT_ok {K : PySem.W.Frag} {ρ : List Addr} {G : GH} {H : Hp} {a : Addr} {vs : List V} {ws : List W} (r : Rep K ca ρ G H) (hv : SqT K H a vs) (q : RelWs K ca ρ H vs ws) : ItOk K ca (IteT K a) (enumW ws) [] ρ H := by
  intro i ρ' G' H' x r' _
  have hv' := (r.stay x).sqT hv
  have qs := relWs_ext q r x
  have hl : (enumW ws).length = ws.length := by unfold enumW; simp
  refine ⟨fun w hw => ?_, fun hl' => ⟨vs, hv', by rw [qs.length]; omega⟩⟩
  unfold enumW at hw
  rw [List.getElem?_map, List.getElem?_zipIdx] at hw
  cases e0 : ws[i]? with
  | none => rw [e0] at hw; cases hw
  | some w0 =>
    rw [e0] at hw
    have hw' : W.tup [.int ((0 + i : Nat) : Int), w0] = w := by simpa using hw
    obtain ⟨v, e1, q1⟩ := relWs_get qs e0
    refine ⟨⟨vs, v, hv', e1⟩, fun y H2 hy => ?_⟩
    obtain ⟨T, z, rfl, hT, rfl, hy⟩ := hy
    have e2 := hy vs hv'
    rw [e1] at e2
    cases e2
    rw [← hw', Nat.zero_add]
    exact pair_new r' hT (.int _) q1
theorem itzT_ok {K : PySem.W.Frag} {ρ : List Addr} {G : GH} {H : Hp} {a b : Addr} {vs us : List V} {ws xs : List W} (r : Rep K ca ρ G H) (hv : SqT K H a vs) (q : RelWs K ca ρ H vs ws) (hu : SqT K H b us) (p : RelWs K ca ρ H us xs) : ItOk K ca (RZ.ItzT K a b) (zipW ws xs) [] ρ H := by
  intro i ρ' G' H' x r' _
  have hv' := (r.stay x).sqT hv
  have hu' := (r.stay x).sqT hu
  have qs := relWs_ext q r x
  have ps := relWs_ext p r x
  have hl : (zipW ws xs).length = min ws.length xs.length := by unfold zipW; simp
  refine ⟨fun w hw => ?_, fun hl' => ⟨vs, us, hv', hu', by rw [qs.length, ps.length]; omega⟩⟩
  unfold zipW at hw
  rw [List.getElem?_map] at hw
  cases e0 : (ws.zip xs)[i]? with
  | none => rw [e0] at hw; cases hw
  | some p0 =>
    rw [e0] at hw
    have hw' : W.tup [p0.1, p0.2] = w := by simpa using hw
    obtain ⟨hi1, hi2⟩ := List.getElem?_zip_eq_some.mp e0
    obtain ⟨v, e1, q1⟩ := relWs_get qs hi1
    obtain ⟨v2, e12, q12⟩ := relWs_get ps hi2
    refine ⟨⟨vs, us, v, v2, hv', hu', e1, e12⟩, fun y H2 hy => ?_⟩
    obtain ⟨T, z, z2, rfl, hT, rfl, hy, hy2⟩ := hy
    have e2 := hy vs hv'
    rw [e1] at e2
    cases e2
    have e22 := hy2 us hu'
    rw [e12] at e22
    cases e22
    rw [← hw']
    exact pair_new r' hT q1 q12
theorem itz_ok {K : PySem.W.Frag} {ρ : List Addr} {G : GH} {H0 H : Hp} {a b : Addr} {t u : T} {ws us : List W} (q : RelT K ca H0 ρ H (.ref a) t) (h : rdl t G = some ws) (q2 : RelT K ca H0 ρ H (.ref b) u) (h2 : rdl u G = some us) (r : Rep K ca ρ G H) :
    ItOk K ca (Itz K a b) (zipW ws us) (srcOf t ws ++ srcOf u us) ρ H := by
  intro i ρ' G' H' x r' hs
  have hs1 : still (srcOf t ws) G' = true := still_iff.mpr fun p hp => still_iff.mp hs p (List.mem_append_left _ hp)
  have hs2 : still (srcOf u us) G' = true := still_iff.mpr fun p hp => still_iff.mp hs p (List.mem_append_right _ hp)
  obtain ⟨a', vs, e, hv, qs⟩ := rdl_later q h r x r' hs1
  cases e
  obtain ⟨b', vs2, e, hv2, qs2⟩ := rdl_later q2 h2 r x r' hs2
  cases e
  have hl : (zipW ws us).length = min ws.length us.length := by unfold zipW; simp
  refine ⟨fun w hw => ?_, fun hl' => ⟨vs, vs2, hv, hv2, by rw [qs.length, qs2.length]; omega⟩⟩
  unfold zipW at hw
  rw [List.getElem?_map] at hw
  cases e0 : (ws.zip us)[i]? with
  | none => rw [e0] at hw; cases hw
  | some p =>
    rw [e0] at hw
    have hw' : W.tup [p.1, p.2] = w := by simpa using hw
    obtain ⟨hi1, hi2⟩ := List.getElem?_zip_eq_some.mp e0
    obtain ⟨v, e1, q1⟩ := relWs_get qs hi1
    obtain ⟨v2, e12, q12⟩ := relWs_get qs2 hi2
    refine ⟨⟨vs, vs2, v, v2, hv, hv2, e1, e12⟩, fun y H2 hy => ?_⟩
    obtain ⟨T, z, z2, rfl, hT, rfl, hy, hy2⟩ := hy
    have e2 := hy vs hv
    rw [e1] at e2
    cases e2
    have e22 := hy2 vs2 hv2
    rw [e12] at e22
    cases e22
    rw [← hw']
    exact pair_new r' hT q1 q12
theorem itv_ok {K : PySem.W.Frag} {ρ : List Addr} {G : GH} {H0 H : Hp} {a : Addr} {n : Nat} {t : T} {ws : List W} (q : RelT K ca H0 ρ H (.ref a) t) (h : rdl t G = some ws) (hn : n = ws.length) (r : Rep K ca ρ G H) : ItOk K ca (Itv K a n) ws.reverse (srcOf t ws) ρ H := by
  subst hn
  intro i ρ' G' H' x r' hs
  obtain ⟨b, vs, e, hv, qs⟩ := rdl_later q h r x r' hs
  cases e
  refine ⟨fun w hw => ?_, fun hl' => by show ws.length ≤ i; simpa using hl'⟩
  have h1 : i < ws.length := by simpa using (List.getElem?_eq_some_iff.mp hw).1
  rw [List.getElem?_reverse h1] at hw
  obtain ⟨v, e1, q1⟩ := relWs_get qs hw
  refine ⟨⟨h1, vs, v, hv, e1⟩, fun y H2 hy => ?_⟩
  obtain ⟨rfl, hy⟩ := hy
  have e2 := hy vs hv
  rw [e1] at e2
  cases e2
  exact ⟨.refl, r', q1⟩
theorem i_enum {e : Expr} {elts : List Expr} {kk : Nat} {p tpos : Pos} {m : M (List T)} (hg : Gl X "enumerate") (hm : X.mg "enumerate" = none) (ha : PA X [e] (tB X.K ca Wx m)) (hs : starEach [e] X.env = [(false, eval e X.env)] := by rfl) :
    PI X (.Tuple elts kk tpos) (.Call (.Name "enumerate" p) [e] [] pos) (tI X.K ca Wx (miB iterE m)) := by
  refine PI.weak (pi_enumA hg hm ha hs) fun σ H R ⟨ρ, G, τ, r, sl, h⟩ => ?_
  refine tB.seq r sl h fun ts G1 ρ1 H1 vs x1 r1 s1 q1 h1 => ?_
  unfold iterE at h1
  split at h1
  · rename_i t
    obtain ⟨v, rfl, qv⟩ := relTs_one q1
    cases e0 : rdl t G1 with
    | none =>
      rw [e0] at h1
      dsimp only at h1
      cases e1 : rdt t with
      | none => rw [e1] at h1; exact h1.elim
      | some ws =>
        rw [e1] at h1
        obtain ⟨a, vs, rfl, hv, qs⟩ := rdt_of qv e1
        exact ⟨a, vs, rfl, .inr ⟨hv, h1 ρ1 H1 .refl r1 _ (iteT_ok r1 hv qs)⟩⟩
    | some ws =>
      rw [e0] at h1
      obtain ⟨a, vs, rfl, hv, qs⟩ := rdl_of r1 qv e0
      exact ⟨a, vs, rfl, .inl ⟨hv, h1 ρ1 H1 .refl r1 _ (ite_ok qv e0 r1)⟩⟩
  · exact h1.elim
theorem i_zip {e e2 : Expr} {elts : List Expr} {kk : Nat} {p tpos : Pos} {m : M (List T)} (hg : Gl X "zip") (hm : X.mg "zip" = none) (ha : PA X [e, e2] (tB X.K ca Wx m)) (hs : starEach [e, e2] X.env = (false, eval e X.env) :: starEach [e2] X.env := by rfl) (hpl : (backTo pos (starEach [e2] X.env)).any (·.1) = false := by rfl) :
    PI X (.Tuple elts kk tpos) (.Call (.Name "zip" p) [e, e2] [] pos) (tI X.K ca Wx (miB iterZ m)) := by
  refine PI.weak (RZ.pi_zipA hg hm ha hs hpl) fun σ H R ⟨ρ, G, τ, r, sl, h⟩ => ?_
  refine tB.seq r sl h fun ts G1 ρ1 H1 vs x1 r1 s1 q1 h1 => ?_
  unfold iterZ at h1
  split at h1
  · rename_i t u
    obtain ⟨v, v2, rfl, qv, qu⟩ := relTs_two q1
    split at h1
    · rename_i ws us e0 e1
      obtain ⟨a, vs, rfl, hv, qs⟩ := rdl_of r1 qv e0
      obtain ⟨b, vs2, rfl, hv2, qs2⟩ := rdl_of r1 qu e1
      exact ⟨a, b, vs, vs2, rfl, .inl ⟨hv, hv2, h1 ρ1 H1 .refl r1 _ (itz_ok qv e0 qu e1 r1)⟩⟩
    · split at h1
      · rename_i ws us e0 e1
        obtain ⟨a, vs, rfl, hv, qs⟩ := rdt_of qv e0
        obtain ⟨b, vs2, rfl, hv2, qs2⟩ := rdt_of qu e1
        exact ⟨a, b, vs, vs2, rfl, .inr ⟨hv, hv2, h1 ρ1 H1 .refl r1 _ (itzT_ok r1 hv qs hv2 qs2)⟩⟩
      · exact h1.elim
  · exact h1.elim
theorem i_reversed {e : Expr} {p : Pos} {m : M (List T)} (hg : Gl X "reversed") (hm : X.mg "reversed" = none) (ha : PA X [e] (tB X.K ca Wx m)) (hs : starEach [e] X.env = [(false, eval e X.env)] := by rfl) :
    PI X tg (.Call (.Name "reversed" p) [e] [] pos) (tI X.K ca Wx (miB iterV m)) := by
  refine PI.weak (pi_reversed hg hm ha hs) fun σ H R ⟨ρ, G, τ, r, sl, h⟩ => ?_
  refine tB.seq r sl h fun ts G1 ρ1 H1 vs x1 r1 s1 q1 h1 => ?_
  unfold iterV at h1
  split at h1
  · rename_i t
    obtain ⟨v, rfl, qv⟩ := relTs_one q1
    cases e0 : rdl t G1 with
    | none => rw [e0] at h1; exact h1.elim
    | some ws =>
      rw [e0] at h1
      obtain ⟨a, vs, rfl, hv, qs⟩ := rdl_of r1 qv e0
      exact ⟨a, vs, rfl, hv, h1 ρ1 H1 .refl r1 _ (itv_ok qv e0 qs.length r1)⟩
  · exact h1.elim
end
end Sy
set_option Elab.async false
set_option linter.all false
set_option maxRecDepth 100000
set_option maxHeartbeats 4000000
namespace Sy
open PySem PySem.Spec PyProof.Rows L2

/-! tuple targets -/
section
variable {X : Cx} {ca : Nat → Addr} {Wx : WX} {pos : Pos}
def tGs (K : PySem.W.Frag) (ca : Nat → Addr) (g : List W → Sl → Option Sl) : TGs := fun vs σ H Q => ∃ ρ G τ ws, Rep K ca ρ G H ∧ RelS K ca ρ H σ τ ∧ RelWs K ca ρ H vs ws ∧ ∃ τ', g ws τ = some τ' ∧ ∀ ρ' H' σ', Ext ρ H ρ' H' → Rep K ca ρ' G H' → RelS K ca ρ' H' σ' τ' → Q σ' H'
def gE : List W → Sl → Option Sl
  | [], τ => some τ
  | _ :: _, _ => none
def gC (g : MG) (gs : List W → Sl → Option Sl) : List W → Sl → Option Sl
  | [], _ => none
  | w :: ws, τ => (g w τ).bind (gs ws)
def gT (gs : List W → Sl → Option Sl) : MG
  | .tup ws, τ => gs ws τ
  | _, _ => none
theorem PG.weak {X : Cx} {e : Expr} {t t' : TG} (h : PG X e t) (f : ∀ v σ H Q, t' v σ H Q → t v σ H Q) : PG X e t' := ⟨fun pins s σ H v u Q I r q => h.run pins s σ H v u Q I r (f v σ H Q q)⟩
theorem PGs.weak {X : Cx} {e : List Expr} {t t' : TGs} (h : PGs X e t) (f : ∀ v σ H Q, t' v σ H Q → t v σ H Q) : PGs X e t' := ⟨fun pins s σ H v u Q I r q => h.run pins s σ H v u Q I r (f v σ H Q q)⟩
theorem g_nil : PGs X [] (tGs X.K ca gE) := PGs.weak pgs_nil fun vs σ H Q ⟨ρ, G, τ, ws, r, s, q, τ', e, h⟩ => by
  cases q with
  | nil => cases e; exact ⟨rfl, h ρ H σ .refl r s⟩
  | cons _ _ => cases e
theorem g_cons {e : Expr} {es : List Expr} {g : MG} {gs : List W → Sl → Option Sl} (h1 : PG X e (tG X.K ca g)) (h2 : PGs X es (tGs X.K ca gs))
    (hs : (assignEach (e :: es) X.env).map (·.2) = assign e X.env :: (assignEach es X.env).map (·.2) := by rfl) : PGs X (e :: es) (tGs X.K ca (gC g gs)) :=
  PGs.weak (pgs_cons h1 h2 hs) fun vs σ H Q ⟨ρ, G, τ, ws, r, s, q, τ', e, h⟩ => by
    cases ws with
    | nil => cases e
    | cons w ws =>
      have e : (g w τ).bind (gs ws) = some τ' := e
      cases vs with
      | nil => cases q
      | cons v vs =>
        have q0 : RelW X.K ca ρ H v w := by cases q; assumption
        have qt : RelWs X.K ca ρ H vs ws := by cases q; assumption
        cases e1 : g w τ with
        | none => rw [e1] at e; cases e
        | some τ1 =>
          rw [e1] at e
          refine ⟨v, vs, rfl, ρ, G, τ, w, r, s, q0, τ1, e1, fun ρ1 H1 σ1 x1 r1 s1 => ?_⟩
          exact ⟨ρ1, G, τ1, ws, r1, s1, relWs_ext qt r x1, τ', e, fun ρ2 H2 σ2 x2 r2 s2 => h ρ2 H2 σ2 (x1.trans x2) r2 s2⟩
theorem g_tup {es : List Expr} {k n : Nat} {gs : List W → Sl → Option Sl} (hc : X.calm = true) (h : PGs X es (tGs X.K ca gs)) (hl : ∀ ws τ τ', gs ws τ = some τ' → ws.length = n)
    (hn : (assignEach es X.env).length = n := by rfl) (hst : (assignEach es X.env).findIdx? (·.1) = none := by rfl) : PG X (.Tuple es k pos) (tG X.K ca (gT gs)) :=
  PG.weak (pg_tup hc h hn hst) fun v σ H Q ⟨ρ, G, τ, w, r, s, q, τ', e, hq⟩ => by
    cases w with
    | tup ws =>
      obtain ⟨a, vs, rfl, hv, qs⟩ := relW_tup q
      exact ⟨a, vs, rfl, hv, qs.length.trans (hl ws τ τ' e), ρ, G, τ, ws, r, s, qs, τ', e, hq⟩
    | _ => cases e
theorem gl_nil : ∀ ws τ τ', gE ws τ = some τ' → ws.length = 0
  | [], _, _, _ => rfl
theorem gl_cons {g : MG} {gs : List W → Sl → Option Sl} {n : Nat} (h : ∀ ws τ τ', gs ws τ = some τ' → ws.length = n) : ∀ ws τ τ', gC g gs ws τ = some τ' → ws.length = n + 1
  | w :: ws, τ, τ', e => by
    have e : (g w τ).bind (gs ws) = some τ' := e
    cases e1 : g w τ with
    | none => rw [e1] at e; cases e
    | some τ1 => rw [e1] at e; rw [List.length_cons, h ws τ1 τ' e]
/-- target = e -/
def sAsg (g : MG) (m : M T) : MS := fun τ G => (mF m τ G).toS τ fun w G1 => match g w τ with
  | some τ' => .nx τ' G1
  | none => .bad
theorem s_asg {tgt e : Expr} {g : MG} {m : M T} (he : PE X e (tE X.K ca Wx m)) (hg : PG X tgt (tG X.K ca g)) (hs : swapsWithSole [tgt] e pos.line X.env = pure false := by rfl) (hw : swappedStores [tgt] e X.env = pure none := by rfl)
    (h1 : (assignEach [tgt] X.env).map (·.2) = [assign tgt X.env] := by rfl) : PS X (.Assign [tgt] e pos) (tS X.K ca Wx (sAsg g m)) := by
  refine PS.weak (ps_asg he hg hs hw h1) fun D σ H ⟨ρ, G, τ, r, s, h⟩ => ?_
  refine tE.seqFS r s h fun w G1 ρ1 H1 v x1 r1 s1 q1 h1 => ?_
  cases e : g w τ with
  | none => rw [e] at h1; exact h1.elim
  | some τ' => rw [e] at h1; exact ⟨ρ1, G1, τ, w, r1, s1, q1, τ', e, fun ρ' H' σ' x r s => h1 ρ' H' σ' x r s⟩
/-- a, b = e1, e2, two plain names -/
def sPar (i j : Nat) (m : M (List W)) : MS := fun τ G => (m τ G).toS τ fun ws G1 => match ws with
  | [w, u] => .nx ((τ.set i (some w)).set j (some u)) G1
  | _ => .bad
theorem tA.seqS {D : Ends} {σ : SSt} {ρ : List Addr} {G : GH} {τ : Sl} {H : Hp} {m : M (List W)} {k : List W → GH → RS} {Q : List V → Hp → Prop} (r : Rep X.K ca ρ G H) (s : RelS X.K ca ρ H σ τ) (h : PostS X.K ca Wx D ρ H ((m τ G).toS τ k))
    (hk : ∀ ws G1 ρ1 H1 vs, Ext ρ H ρ1 H1 → Rep X.K ca ρ1 G1 H1 → RelS X.K ca ρ1 H1 σ τ → RelWs X.K ca ρ1 H1 vs ws → PostS X.K ca Wx D ρ1 H1 (k ws G1) → Q vs H1) : tA X.K ca Wx m σ H Q :=
  ⟨ρ, G, τ, r, s, (PostS.of s r h).imp fun ws G1 ρ1 H1 x r1 q vs rv => hk ws G1 ρ1 H1 vs x r1 (s.ext r x) rv q⟩
theorem s_par {i j : Nat} {x y : Str} {a b : Expr} {ma : M (List W)} {px py pt : Pos} {kt k2 pt2} (hc : X.calm = true) (hN : X.N.Nodup) (hi : X.N[i]? = some x) (hj : X.N[j]? = some y) (hij : i ≠ j)
    (hx : X.env.scope.names.lookup x = some .local) (hy : X.env.scope.names.lookup y = some .local) (ha : PA X [a, b] (tA X.K ca Wx ma))
    (hw : swappedStores [.Tuple [.Name x px, .Name y py] kt pt] (.Tuple [a, b] k2 pt2) X.env = pure (some [x, y]))
    (hs : swapsWithSole [.Tuple [.Name x px, .Name y py] kt pt] (.Tuple [a, b] k2 pt2) pos.line X.env = pure false := by rfl) :
    PS X (.Assign [.Tuple [.Name x px, .Name y py] kt pt] (.Tuple [a, b] k2 pt2) pos) (tS X.K ca Wx (sPar i j ma)) := by
  refine PS.weak (ps_par hc hN hi hj hij hx hy ha hw hs) fun D σ H ⟨ρ, G, τ, r, s, h⟩ => ?_
  refine tA.seqS r s h fun ws G1 ρ1 H1 vs x1 r1 s1 q1 h1 => ?_
  split at h1
  · obtain ⟨v, u, rfl, qv, qu⟩ := relWs_two q1
    exact ⟨v, u, rfl, h1 ρ1 H1 _ .refl r1 ((s1.set i qv).set j qu)⟩
  · exact h1.elim
end

/-! list comprehensions whose turns raise nothing -/
def R.noEx {α : Type} : R α → R α
  | .ok a G => .ok a G
  | _ => .bad
@[simp] theorem R.noEx_ok {α : Type} (a : α) (G : GH) : (R.ok a G).noEx = .ok a G := (rfl)
def wipeS (τ : Sl) : List Nat → Sl
  | [] => τ
  | v :: vs => (wipeS τ vs).set v none
noncomputable def compF (src : Src) (g : MG) (c : M Bool) (e : M T) (τ : Sl) : List W → GH → R (List W)
  | [], G => if still src G then .ok [] G else .bad
  | w :: ws, G => if still src G then match g w τ with
      | none => .bad
      | some τ1 => ((c τ1 G).noEx).bind fun b G1 => if b then ((mF e τ1 G1).noEx).bind fun y G2 => (compF src g c e τ ws G2).bind fun ys G3 => .ok (y :: ys) G3
          else compF src g c e τ ws G1
    else .bad
noncomputable def mComp (mi : M (List W × Src)) (g : MG) (c : M Bool) (e : M T) (vs : List Nat) : M T := fun τ G => (mi τ G).bind fun p G1 =>
  if p.1.length ≤ 16777216 then (compF p.2 g c e (wipeS τ vs) p.1 G1).bind fun ys G2 => .ok (.tmp ys) G2 else .bad
def wF : WX := fun _ _ _ _ => False
def mYes : M Bool := fun _ G => .ok true G
section
variable {X : Cx} {ca : Nat → Addr} {Wx : WX} {pos : Pos}
theorem RelS.wipe {K : PySem.W.Frag} {ρ : List Addr} {H : Hp} {σ : SSt} {τ : Sl} (h : RelS K ca ρ H σ τ) : ∀ vs : List Nat, RelS K ca ρ H (L2.wipe σ vs) (wipeS τ vs)
  | [] => h
  | v :: vs => (RelS.wipe h vs).unset v
theorem Post.noEx {α : Type} {σ : SSt} {ρ : List Addr} {H : Hp} {P : α → GH → List Addr → Hp → Prop} {r : R α} (h : Post X.K ca Wx σ ρ H P r.noEx) : Post X.K ca wF σ ρ H P r := by
  cases r with
  | ok a G => exact h
  | ex c fs G => exact h.elim
  | bad => exact h
theorem Post.noExBind {α β : Type} {σ σ' : SSt} {ρ : List Addr} {H : Hp} {P : β → GH → List Addr → Hp → Prop} {r : R α} {k : α → GH → R β} (h : Post X.K ca Wx σ ρ H P (r.noEx.bind k)) :
    Post X.K ca wF σ' ρ H (fun a G1 ρ1 H1 => Post X.K ca Wx σ ρ1 H1 P (k a G1)) r := by
  cases r with
  | ok a G => exact fun ρ1 H1 x r1 => Post.later h x
  | ex c fs G => exact h.elim
  | bad => exact h
/-- the list in the making grows -/
theorem rep_app {K : PySem.W.Frag} {ρ : List Addr} {G : GH} {H : Hp} {D : Addr} {o : HO} (r : Rep K ca ρ G H) (hn : D ∉ ρ) (ht : ∀ u, H D = some u → isStat u = false) : Rep K ca ρ G (upd H D o) :=
  ⟨r.len, r.nd, fun n a u e1 e2 => objR_mono (r.obj n a u e1 e2) (fun _ _ h => h) (Stay.put ht) (upd_ne fun e => hn (e ▸ List.mem_of_getElem? e1))⟩
theorem tE.eqF {σ : SSt} {ρ : List Addr} {G G1 : GH} {τ : Sl} {H : Hp} {m : M T} {w : W} {Q : VK} (e : mF m τ G = .ok w G1) (r : Rep X.K ca ρ G H) (s : RelS X.K ca ρ H σ τ)
    (hk : ∀ ρ1 H1 v, Ext ρ H ρ1 H1 → Rep X.K ca ρ1 G1 H1 → RelS X.K ca ρ1 H1 σ τ → RelW X.K ca ρ1 H1 v w → Q v H1) : tE X.K ca Wx m σ H Q := by
  refine tE.seqF (k := fun y G2 => R.ok y G2) (P := fun y G2 _ _ => y = w ∧ G2 = G1) r s ?_ fun y G2 ρ1 H1 v x1 r1 s1 q1 h1 => ?_
  · show Post X.K ca Wx σ ρ H _ ((mF m τ G).bind fun y G2 => R.ok y G2)
    rw [e]
    exact fun _ _ _ _ => ⟨rfl, rfl⟩
  · obtain ⟨rfl, rfl⟩ := h1 ρ1 H1 .refl r1
    exact hk ρ1 H1 v x1 r1 s1 q1
theorem tT.eqB {σ : SSt} {ρ : List Addr} {G G1 : GH} {τ : Sl} {H : Hp} {m : M Bool} {b : Bool} {Q : Bool → Hp → Prop} (e : m τ G = .ok b G1) (r : Rep X.K ca ρ G H) (s : RelS X.K ca ρ H σ τ)
    (hk : ∀ ρ1 H1, Ext ρ H ρ1 H1 → Rep X.K ca ρ1 G1 H1 → RelS X.K ca ρ1 H1 σ τ → Q b H1) : tT X.K ca Wx m σ H Q := by
  refine ⟨ρ, G, τ, r, s, ?_⟩
  rw [e]
  exact fun ρ1 H1 x1 r1 => hk ρ1 H1 x1 r1 (s.ext r x1)
theorem comp_of {tgI : TI} {g : MG} {tt : TT} {te : TE} {vs : List Nat} {mi : M (List W × Src)} {mc : M Bool} {me : M T} {gg : TG}
    (hi : ∀ σ H R, tI X.K ca Wx mi σ H R → tgI σ H R) (hg : ∀ v σ H Q, tG X.K ca g v σ H Q → gg v σ H Q) (ht : ∀ σ H Q, tT X.K ca wF mc σ H Q → tt σ H Q) (he : ∀ σ H Q, tE X.K ca wF me σ H Q → te σ H Q)
    (hgw : ∀ v σ H (Q : SSt → Hp → Prop), gg v (L2.wipe σ vs) H Q → gg v (L2.wipe σ vs) H fun σ2 H2 => L2.wipe σ2 vs = L2.wipe σ vs ∧ Q σ2 H2)
    {σ : SSt} {H : Hp} {Q : VK} (h : tE X.K ca Wx (mComp mi g mc me vs) σ H Q) : tLc tgI gg tt te vs σ H Q := by
  obtain ⟨ρ, G, τ, r, s, h⟩ := h
  refine hi σ H _ ⟨ρ, G, τ, r, s, h.bind.imp fun p G1 ρ1 H1 x1 r1 h1 J hJ D hD => ?_⟩
  obtain ⟨its, src⟩ := p
  dsimp only at h1
  by_cases hz : its.length ≤ 16777216
  · rw [if_pos hz] at h1
    -- what holds between two turns
    generalize hP : (fun (t : T) (_ : GH) ρ2 H2 => ∀ v, RelT X.K ca H ρ2 H2 v t → Q v H2) = P at h1
    generalize hZ : (fun (i : Nat) (H' : Hp) => ∃ ρ' G' acc accW, Ext ρ1 H1 ρ' H' ∧ Rep X.K ca ρ' G' H' ∧ D ∉ ρ' ∧ H' D = some (.lst acc) ∧ RelWs X.K ca ρ' H' acc accW ∧ acc.length ≤ i ∧
      Post X.K ca Wx σ ρ1 H1 P ((compF src g mc me (wipeS τ vs) (its.drop i) G').bind fun ys G2 => .ok (.tmp (accW ++ ys)) G2)) = Z
    have mkZ : ∀ {i : Nat} {H' : Hp} {ρ' : List Addr} {G' : GH} {acc : List V} {accW : List W}, Ext ρ1 H1 ρ' H' → Rep X.K ca ρ' G' H' → D ∉ ρ' → H' D = some (.lst acc) → RelWs X.K ca ρ' H' acc accW → acc.length ≤ i →
        Post X.K ca Wx σ ρ1 H1 P ((compF src g mc me (wipeS τ vs) (its.drop i) G').bind fun ys G2 => .ok (.tmp (accW ++ ys)) G2) → Z i H' := by
      intro i H' ρ' G' acc accW a b c d e f g
      rw [← hZ]
      exact ⟨ρ', G', acc, accW, a, b, c, d, e, f, g⟩
    refine ⟨fun i m H' => m = its.length - i ∧ i ≤ its.length ∧ Z i H', ⟨its.length, rfl, Nat.zero_le _, mkZ (.laid hD) (r1.laid hD) (r1.fresh hD) upd_same .nil (Nat.le_refl _) ?_⟩, ?_⟩
    · exact h1
    · rintro i m H2 ⟨rfl, hi, hz2⟩
      rw [← hZ] at hz2
      obtain ⟨ρ2, G2, acc, accW, x2, r2, nD, eD, qD, lD, h2⟩ := hz2
      have s2 : RelS X.K ca ρ2 H2 σ τ := (s.ext r x1).ext r1 x2
      by_cases hlt : i < its.length
      · rw [List.drop_eq_getElem_cons hlt] at h2
        unfold compF at h2
        cases hs : still src G2 with
        | false => rw [hs] at h2; exact h2.elim
        | true =>
          rw [hs, if_pos rfl] at h2
          obtain ⟨hgo, _⟩ := hJ i ρ2 G2 H2 x2 r2 hs
          obtain ⟨go, yl⟩ := hgo its[i] (List.getElem?_eq_getElem hlt)
          refine .inr ⟨go, Z (i + 1), fun H' hw => ⟨its.length - (i + 1), by omega, rfl, hlt, hw⟩, fun y H3 hy => hgw _ _ _ _ ?_⟩
          obtain ⟨x3, r3, q3⟩ := yl y H3 hy
          cases e : g its[i] (wipeS τ vs) with
          | none => rw [e] at h2; exact h2.elim
          | some τ3 =>
            rw [e] at h2
            dsimp only at h2
            refine hg _ _ _ _ ⟨ρ2, G2, wipeS τ vs, its[i], r3, (s2.ext r2 x3).wipe vs, q3, τ3, e, fun ρ4 H4 σ4 x4 r4 s4 => ?_⟩
            have x24 := x3.trans x4
            cases ec : mc τ3 G2 with
            | ex _ _ _ => rw [ec] at h2; exact h2.elim
            | bad => rw [ec] at h2; exact h2.elim
            | ok b G5 =>
              rw [ec] at h2
              refine ht _ _ _ (tT.eqB ec r4 s4 fun ρ5 H5 x5 r5 s5 => ?_)
              have x25 := x24.trans x5
              have nD5 : D ∉ ρ5 := fun hm => (x25.new D hm).elim nD fun z => by rw [eD] at z; cases z
              have eD5 : H5 D = some (.lst acc) := x25.keep _ _ nD eD
              have q5 := relWs_ext qD r2 x25
              have x15 := x2.trans x25
              cases b with
              | false =>
                show Z (i + 1) H5
                exact mkZ x15 r5 nD5 eD5 q5 (by omega) h2
              | true =>
                show te σ4 H5 _
                cases em : mF me τ3 G5 with
                | ex _ _ _ =>
                  have h3 : Post X.K ca Wx σ ρ1 H1 P ((((mF me τ3 G5).noEx).bind fun y G2 => (compF src g mc me (wipeS τ vs) (its.drop (i + 1)) G2).bind fun ys G3 => .ok (y :: ys) G3).bind fun ys G2 => .ok (.tmp (accW ++ ys)) G2) := h2
                  rw [em] at h3; exact h3.elim
                | bad =>
                  have h3 : Post X.K ca Wx σ ρ1 H1 P ((((mF me τ3 G5).noEx).bind fun y G2 => (compF src g mc me (wipeS τ vs) (its.drop (i + 1)) G2).bind fun ys G3 => .ok (y :: ys) G3).bind fun ys G2 => .ok (.tmp (accW ++ ys)) G2) := h2
                  rw [em] at h3; exact h3.elim
                | ok w G6 =>
                  have h3 : Post X.K ca Wx σ ρ1 H1 P ((((mF me τ3 G5).noEx).bind fun y G2 => (compF src g mc me (wipeS τ vs) (its.drop (i + 1)) G2).bind fun ys G3 => .ok (y :: ys) G3).bind fun ys G2 => .ok (.tmp (accW ++ ys)) G2) := h2
                  rw [em] at h3
                  have h4 : Post X.K ca Wx σ ρ1 H1 P ((compF src g mc me (wipeS τ vs) (its.drop (i + 1)) G6).bind fun ys G2 => .ok (.tmp ((accW ++ [w]) ++ ys)) G2) := by
                    cases ef : compF src g mc me (wipeS τ vs) (its.drop (i + 1)) G6 with
                    | ok ys G7 =>
                      have h5 : Post X.K ca Wx σ ρ1 H1 P (((compF src g mc me (wipeS τ vs) (its.drop (i + 1)) G6).bind fun ys G3 => .ok (w :: ys) G3).bind fun ys G2 => .ok (.tmp (accW ++ ys)) G2) := h3
                      rw [ef] at h5
                      show Post X.K ca Wx σ ρ1 H1 P (.ok (.tmp ((accW ++ [w]) ++ ys)) G7)
                      rw [List.append_assoc]
                      exact h5
                    | ex _ _ _ =>
                      have h5 : Post X.K ca Wx σ ρ1 H1 P (((compF src g mc me (wipeS τ vs) (its.drop (i + 1)) G6).bind fun ys G3 => .ok (w :: ys) G3).bind fun ys G2 => .ok (.tmp (accW ++ ys)) G2) := h3
                      rw [ef] at h5
                      exact h5
                    | bad =>
                      have h5 : Post X.K ca Wx σ ρ1 H1 P (((compF src g mc me (wipeS τ vs) (its.drop (i + 1)) G6).bind fun ys G3 => .ok (w :: ys) G3).bind fun ys G2 => .ok (.tmp (accW ++ ys)) G2) := h3
                      rw [ef] at h5
                      exact h5
                  refine he _ _ _ (tE.eqF em r5 s5 fun ρ6 H6 v x6 r6 s6 q6 => ?_)
                  have nD6 : D ∉ ρ6 := fun hm => (x6.new D hm).elim nD5 fun z => by rw [eD5] at z; cases z
                  have eD6 : H6 D = some (.lst acc) := x6.keep _ _ nD5 eD5
                  have q7 := relWs_ext q5 r5 x6
                  have nt := ns_lst eD6
                  refine ⟨acc, eD6, by rw [sizeLine_eq]; omega, mkZ (acc := acc ++ [v]) (accW := accW ++ [w]) ?_ (rep_app r6 nD6 nt) nD6 upd_same ?_ (by rw [List.length_append, List.length_singleton]; omega) h4⟩
                  · have x16 := x15.trans x6
                    refine ⟨x16.pre, x16.new, fun b o hb e => ?_⟩
                    have nb : b ≠ D := fun z => by rw [z, hD] at e; cases e
                    rw [upd_ne nb]
                    exact x16.keep b o hb e
                  · exact relWs_app (paired_imp q7 fun _ _ z => z.mono (fun _ _ e => e) (Stay.put nt)) (.cons (q6.mono (fun _ _ e => e) (Stay.put nt)) .nil)
      · have e : i = its.length := by omega
        subst e
        rw [List.drop_length] at h2
        unfold compF at h2
        cases hs : still src G2 with
        | false => rw [hs] at h2; exact h2.elim
        | true =>
          rw [hs, if_pos rfl] at h2
          obtain ⟨_, hst⟩ := hJ its.length ρ2 G2 H2 x2 r2 hs
          refine .inl ⟨hst (Nat.le_refl _), ?_⟩
          have h3 := h2 ρ2 H2 x2 r2
          rw [← hP] at h3
          refine h3 (.ref D) ?_
          refine RelT.back (ρ := ρ1) (H := H1) ?_ x1 x2
          exact ⟨D, acc, rfl, nD, hD, eD, by rw [List.append_nil]; exact qD⟩
  · rw [if_neg hz] at h1
    exact h1.elim
end
end Sy
set_option Elab.async false
set_option linter.all false
set_option maxRecDepth 100000
set_option maxHeartbeats 4000000
namespace Sy
open PySem PySem.Spec PyProof.Rows L2

/-! a comprehension's own names -/
def Own (vs : List Nat) (gg : TG) : Prop := ∀ v σ H (Q : SSt → Hp → Prop), gg v σ H Q → gg v σ H fun σ2 H2 => L2.wipe σ2 vs = L2.wipe σ vs ∧ Q σ2 H2
def OwnS (vs : List Nat) (gg : TGs) : Prop := ∀ v σ H (Q : SSt → Hp → Prop), gg v σ H Q → gg v σ H fun σ2 H2 => L2.wipe σ2 vs = L2.wipe σ vs ∧ Q σ2 H2
theorem wipe_len (σ : SSt) (vs : List Nat) : (L2.wipe σ vs).length = σ.length := wipe_length σ vs
theorem wipe_set {i : Nat} {x : Option V} : ∀ {vs : List Nat} {σ : SSt}, i ∈ vs → L2.wipe (σ.set i x) vs = L2.wipe σ vs
  | v :: vs, σ, h => by
    show (L2.wipe (σ.set i x) vs).set v none = (L2.wipe σ vs).set v none
    by_cases hi : i ∈ vs
    · rw [wipe_set hi]
    · have e : i = v := by
        rcases List.mem_cons.mp h with e | e
        · exact e
        · exact absurd e hi
      subst e
      have aux : ∀ (us : List Nat) (σ : SSt), i ∉ us → L2.wipe (σ.set i x) us = (L2.wipe σ us).set i x := by
        intro us
        induction us with
        | nil => intro σ _; rfl
        | cons u us ih =>
          intro σ hu
          show (L2.wipe (σ.set i x) us).set u none = ((L2.wipe σ us).set u none).set i x
          rw [ih σ fun z => hu (List.mem_cons_of_mem _ z)]
          exact List.set_comm _ _ fun z => hu (by rw [z]; exact List.mem_cons_self)
      rw [aux vs σ hi, List.set_set]
theorem wipe_wipe {σ : SSt} {us : List Nat} : ∀ {vs : List Nat}, (∀ v ∈ vs, v ∈ us) → L2.wipe (L2.wipe σ vs) us = L2.wipe σ us
  | [], _ => rfl
  | v :: vs, h => by
    show L2.wipe ((L2.wipe σ vs).set v none) us = L2.wipe σ us
    rw [wipe_set (h v List.mem_cons_self), wipe_wipe fun u hu => h u (List.mem_cons_of_mem _ hu)]
theorem own_name {vs : List Nat} {i : Nat} (h : i ∈ vs) : Own vs (gName i) := fun v σ H Q q => ⟨wipe_set h, q⟩
theorem own_nil {vs : List Nat} : OwnS vs gNil := fun v σ H Q q => ⟨q.1, rfl, q.2⟩
theorem TG.mono_name {i : Nat} {v : V} {σ : SSt} {H : Hp} {Q Q' : SSt → Hp → Prop} (h : gName i v σ H Q) (f : ∀ σ H, Q σ H → Q' σ H) : gName i v σ H Q' := f _ _ h
theorem own_cons {vs : List Nat} {t : TG} {u : TGs} (h1 : Own vs t) (hm : ∀ v σ H (Q Q' : SSt → Hp → Prop), (∀ σ H, Q σ H → Q' σ H) → t v σ H Q → t v σ H Q') (hmu : ∀ v σ H (Q Q' : SSt → Hp → Prop), (∀ σ H, Q σ H → Q' σ H) → u v σ H Q → u v σ H Q') (h2 : OwnS vs u) : OwnS vs (gCons t u) := by
  rintro ws σ H Q ⟨v, r, e, q⟩
  refine ⟨v, r, e, hm _ _ _ _ _ (fun σ1 H1 h => ?_) (h1 v σ H _ q)⟩
  obtain ⟨e1, q1⟩ := h
  exact hmu _ _ _ _ _ (fun σ2 H2 h => ⟨h.1.trans e1, h.2⟩) (h2 r σ1 H1 Q q1)
theorem own_tup {K : PySem.W.Frag} {n : Nat} {vs : List Nat} {u : TGs} (h : OwnS vs u) : Own vs (gTup K n u) := by
  rintro v σ H Q ⟨a, xs, e, hs, hl, q⟩
  exact ⟨a, xs, e, hs, hl, h xs σ H Q q⟩
theorem mono_name {i : Nat} : ∀ v σ H (Q Q' : SSt → Hp → Prop), (∀ σ H, Q σ H → Q' σ H) → gName i v σ H Q → gName i v σ H Q' := fun _ _ _ _ _ f q => f _ _ q
theorem mono_nil : ∀ v σ H (Q Q' : SSt → Hp → Prop), (∀ σ H, Q σ H → Q' σ H) → gNil v σ H Q → gNil v σ H Q' := fun _ _ _ _ _ f q => ⟨q.1, f _ _ q.2⟩
theorem mono_cons {t : TG} {u : TGs} (hm : ∀ v σ H (Q Q' : SSt → Hp → Prop), (∀ σ H, Q σ H → Q' σ H) → t v σ H Q → t v σ H Q') (hmu : ∀ v σ H (Q Q' : SSt → Hp → Prop), (∀ σ H, Q σ H → Q' σ H) → u v σ H Q → u v σ H Q') :
    ∀ v σ H (Q Q' : SSt → Hp → Prop), (∀ σ H, Q σ H → Q' σ H) → gCons t u v σ H Q → gCons t u v σ H Q' := by
  rintro ws σ H Q Q' f ⟨v, r, e, q⟩
  exact ⟨v, r, e, hm _ _ _ _ _ (fun _ _ h => hmu _ _ _ _ _ f h) q⟩
section
variable {X : Cx} {ca : Nat → Addr} {Wx : WX} {pos : Pos}
def Tgt (K : PySem.W.Frag) (ca : Nat → Addr) (gg : TG) (g : MG) : Prop := ∀ v σ H Q, tG K ca g v σ H Q → gg v σ H Q
def TgtS (K : PySem.W.Frag) (ca : Nat → Addr) (gg : TGs) (g : List W → Sl → Option Sl) : Prop := ∀ v σ H Q, tGs K ca g v σ H Q → gg v σ H Q
theorem tgt_name {K : PySem.W.Frag} {i : Nat} : Tgt K ca (gName i) (gN i) := fun v σ H Q ⟨ρ, G, τ, w, r, s, q, τ', e, h⟩ => by
  cases e
  exact h ρ H _ .refl r (s.set i q)
theorem tgt_nil {K : PySem.W.Frag} : TgtS K ca gNil gE := fun vs σ H Q ⟨ρ, G, τ, ws, r, s, q, τ', e, h⟩ => by
  cases q with
  | nil => cases e; exact ⟨rfl, h ρ H σ .refl r s⟩
  | cons _ _ => cases e
theorem tgt_cons {K : PySem.W.Frag} {gg : TG} {g : MG} {ggs : TGs} {gs : List W → Sl → Option Sl} (h1 : Tgt K ca gg g) (h2 : TgtS K ca ggs gs) : TgtS K ca (gCons gg ggs) (gC g gs) := fun vs σ H Q ⟨ρ, G, τ, ws, r, s, q, τ', e, h⟩ => by
  cases ws with
  | nil => cases e
  | cons w ws =>
    have e : (g w τ).bind (gs ws) = some τ' := e
    cases vs with
    | nil => cases q
    | cons v vs =>
      have q0 : RelW K ca ρ H v w := by cases q; assumption
      have qt : RelWs K ca ρ H vs ws := by cases q; assumption
      cases e1 : g w τ with
      | none => rw [e1] at e; cases e
      | some τ1 =>
        rw [e1] at e
        refine ⟨v, vs, rfl, h1 _ _ _ _ ⟨ρ, G, τ, w, r, s, q0, τ1, e1, fun ρ1 H1 σ1 x1 r1 s1 => ?_⟩⟩
        exact h2 _ _ _ _ ⟨ρ1, G, τ1, ws, r1, s1, relWs_ext qt r x1, τ', e, fun ρ2 H2 σ2 x2 r2 s2 => h ρ2 H2 σ2 (x1.trans x2) r2 s2⟩
theorem tgt_tup {K : PySem.W.Frag} {n : Nat} {ggs : TGs} {gs : List W → Sl → Option Sl} (h : TgtS K ca ggs gs) (hl : ∀ ws τ τ', gs ws τ = some τ' → ws.length = n) : Tgt K ca (gTup K n ggs) (gT gs) := fun v σ H Q ⟨ρ, G, τ, w, r, s, q, τ', e, hq⟩ => by
  cases w with
  | tup ws =>
    obtain ⟨a, vs, rfl, hv, qs⟩ := relW_tup q
    exact ⟨a, vs, rfl, hv, qs.length.trans (hl ws τ τ' e), h _ _ _ _ ⟨ρ, G, τ, ws, r, s, qs, τ', e, hq⟩⟩
  | _ => cases e
theorem ts_nil : PTs X [] (tT X.K ca Wx mYes) := ⟨fun pins s σ H Q I ⟨ρ, G, τ, r, sl, h⟩ => pts_nil.run pins s σ H Q I (h ρ H .refl r)⟩
theorem ts_one {c : Expr} {m : M Bool} (h : PT X c (tT X.K ca Wx m)) : PTs X [c] (tT X.K ca Wx m) := pts_one h
/-- [elt for target in iter if ..] -/
theorem s_lc {elt tg iter : Expr} {ifs : List Expr} {scope : Scope} {own : List (Str × Nat)} {mi : M (List W × Src)} {gg : TG} {g : MG} {mc : M Bool} {me : M T} (hc : X.calm = true) (hN : X.N.Nodup) (hi : PI X tg iter (tI X.K ca Wx mi)) (ok : BlkOk X.N X.env.scope scope own)
    (hg : ∀ (s : Shared) (H : Hp) (C : Addr) (cl : List (Str × Addr)) (fp : List Addr), PG (X.blk s H scope (compEnvC scope cl C X.env) fp) tg gg) (hT : Tgt X.K ca gg g) (hO : Own (own.map (·.2)) gg)
    (ht : ∀ (s : Shared) (H : Hp) (C : Addr) (cl : List (Str × Addr)) (fp : List Addr), PTs (X.blk s H scope (compEnvC scope cl C X.env) fp) ifs (tT X.K ca wF mc))
    (he : ∀ (s : Shared) (H : Hp) (C : Addr) (cl : List (Str × Addr)) (fp : List Addr), PE (X.blk s H scope (compEnvC scope cl C X.env) fp) elt (tE X.K ca wF me)) (hs : ∀ x, foldedSetIterable iter X.env x = pure x := by intro _; rfl) :
    PE X (.ListComp elt [⟨tg, iter, ifs, 0⟩] scope pos) (tE X.K ca Wx (mComp mi g mc me (own.map (·.2)))) :=
  PE.weak (pe_lc hc hN hi ok hg ht he hs) fun σ H Q h => comp_of (fun _ _ _ h => h) hT (fun _ _ _ h => h) (fun _ _ _ h => h) (fun v σ H Q q => by
    have q' := hO v _ H Q q
    rwa [wipe_wipe fun v hv => hv] at q') h
theorem s_setLc {i : Nat} {y : Str} {py : Pos} {elt tg iter : Expr} {ifs : List Expr} {scope : Scope} {own : List (Str × Nat)} {spos : Pos} {mi : M (List W × Src)} {gg : TG} {g : MG} {mc : M Bool} {me : M T} (hc : X.calm = true) (hN : X.N.Nodup) (hy : X.N[i]? = some y) (hyl : X.env.scope.names.lookup y = some .local)
    (hsw : swapsWith (.ListComp elt [⟨tg, iter, ifs, 0⟩] scope pos) (some (.Name y py)) spos.line X.env = pure true) (hi : PI X tg iter (tI X.K ca Wx mi)) (ok : BlkOk X.N X.env.scope scope own)
    (hg : ∀ (s : Shared) (H : Hp) (C : Addr) (cl : List (Str × Addr)) (fp : List Addr), PG (X.blk s H scope (compEnvC scope cl C X.env) fp) tg gg) (hT : Tgt X.K ca gg g) (hO : Own (own.map (·.2)) gg)
    (ht : ∀ (s : Shared) (H : Hp) (C : Addr) (cl : List (Str × Addr)) (fp : List Addr), PTs (X.blk s H scope (compEnvC scope cl C X.env) fp) ifs (tT X.K ca wF mc))
    (he : ∀ (s : Shared) (H : Hp) (C : Addr) (cl : List (Str × Addr)) (fp : List Addr), PE (X.blk s H scope (compEnvC scope cl C X.env) fp) elt (tE X.K ca wF me)) (hs : ∀ x, foldedSetIterable iter X.env x = pure x := by intro _; rfl) :
    PS X (.Assign [.Name y py] (.ListComp elt [⟨tg, iter, ifs, 0⟩] scope pos) spos) (tS X.K ca Wx (sSet i (mComp mi g mc me (own.map (·.2))))) :=
  PS.weak (ps_setLc hc hN hy hyl hsw hi ok hg ht he hs) fun D σ H h => by
    have h' := set_of (X := X) h
    exact comp_of (fun _ _ _ h => h) hT (fun _ _ _ h => h) (fun _ _ _ h => h) (fun v σ H Q q => by
      have q' := hO v _ H Q q
      rwa [wipe_wipe fun v hv => hv] at q') h'
end

/-! defs -/
section
variable (K : PySem.W.Frag) (ca : Nat → Addr)
/-- what a def promises: it does what m does -/
def spM (n : Nat) (m : List W → GH → R W) : Sp := fun vs H Q E => vs.length = n ∧ ∃ ρ G ws, Rep K ca ρ G H ∧ RelWs K ca ρ H vs ws ∧ Post K ca (fun c d _ H => E c d H) [] ρ H (fun w _ ρ' H' => ∀ v, RelW K ca ρ' H' v w → Q v H') (m ws G)
end
def mDef (n : Nat) (mb : MS) : List W → GH → R W := fun ws G => match mb (ws.map some ++ List.replicate (n - ws.length) none) G with
  | .nx _ G' => .ok .non G'
  | .rt w G' => .ok w G'
  | .ex c fs _ G' => .ex c fs G'
  | _ => .bad
theorem relS_start {K : PySem.W.Frag} {ca : Nat → Addr} {ρ : List Addr} {H : Hp} {N : List Str} {vs : List V} {ws : List W} (q : RelWs K ca ρ H vs ws) : RelS K ca ρ H (L2.start N vs) (ws.map some ++ List.replicate (N.length - ws.length) none) := by
  have hl := q.length
  unfold L2.start
  refine ⟨by simp [hl], fun i w e => ?_⟩
  by_cases hi : i < ws.length
  · rw [List.getElem?_append_left (by simpa using hi), List.getElem?_map] at e
    cases e0 : ws[i]? with
    | none => rw [e0] at e; cases e
    | some u =>
      rw [e0] at e
      cases e
      obtain ⟨v, e1, q1⟩ := relWs_get q e0
      exact ⟨v, by rw [List.getElem?_append_left (by simp; omega), List.getElem?_map, e1]; rfl, q1⟩
  · rw [List.getElem?_append_right (by simpa using hi), List.getElem?_replicate] at e
    split at e <;> cases e
section
variable {P : Program} {w : World} {K : PySem.W.Frag} {mg : Str → Option Value} {base : Heap} {ca : Nat → Addr}
/-- a def of the module that does what m does; dws: the values of defaults that a call leaves out -/
structure Callable (P : Program) (w : World) (K : PySem.W.Frag) (mg : Str → Option Value) (base : Heap) (ca : Nat → Addr) (k : Nat) (x : Str) (ps : List Str) (dws : List W) (m : List W → GH → R W) : Prop where
  ex : ∃ (f : Addr) (fd : FuncData) (dvs : List V) (ds : List Value), mg x = some (.ref f) ∧ PySem.W.keepIn K (.ref f) = true ∧ Binds K fd ps ds ∧ Vals dvs ds ∧ (∀ ρ H, RelWs K ca ρ H dvs dws) ∧ FnOk P w K mg base (L2N.CX P w) k f fd ps (spM K ca ps.length m)
theorem Callable.mono {k k' : Nat} {x : Str} {ps : List Str} {dws : List W} {m : List W → GH → R W} (C : Callable P w K mg base ca k x ps dws m) (h : k ≤ k') : Callable P w K mg base ca k' x ps dws m := by
  obtain ⟨f, fd, dvs, ds, a, b, c, d, e, g⟩ := C.ex
  exact ⟨f, fd, dvs, ds, a, b, c, d, e, g.mono h⟩
end
def mCall (m : List W → GH → R W) (dws : List W) (ma : M (List W)) : M T := fun τ G => (ma τ G).bind fun ws G1 => (m (ws ++ dws) G1).bind fun w G2 => .ok (.val w) G2
section
variable {X : Cx} {ca : Nat → Addr} {Wx : WX} {pos : Pos}
theorem call_in {n : Nat} {m : List W → GH → R W} {dws : List W} {dvs : List V} {ma : M (List W)} {σ : SSt} {H : Hp} {Q : VK} (hd : ∀ ρ H, RelWs X.K ca ρ H dvs dws) (hn : ∀ ws τ G G1, ma τ G = .ok ws G1 → (ws ++ dws).length = n)
    (h : tE X.K ca Wx (mCall m dws ma) σ H Q) : tA X.K ca Wx ma σ H fun vs H1 => spM X.K ca n m (vs ++ dvs) H1 Q (WE Wx σ) := by
  obtain ⟨ρ, G, τ, r, s, h⟩ := h
  refine ⟨ρ, G, τ, r, s, ?_⟩
  cases e : ma τ G with
  | ok ws G1 =>
    have h' : Post X.K ca Wx σ ρ H (fun t _ ρ' H' => ∀ v, RelT X.K ca H ρ' H' v t → Q v H') ((m (ws ++ dws) G1).bind fun w G2 => .ok (.val w) G2) := by
      unfold mCall at h
      rw [e] at h
      exact h
    intro ρ1 H1 x1 r1 vs qs
    have qs2 := relWs_app qs (hd ρ1 H1)
    refine ⟨qs2.length.trans (hn ws τ G G1 e), ρ1, G1, ws ++ dws, r1, qs2, ?_⟩
    have h2 := Post.later h' x1
    cases em : m (ws ++ dws) G1 with
    | ok w G2 => rw [em] at h2; exact fun ρ2 H2 x2 r2 v q => h2 ρ2 H2 x2 r2 v q
    | ex c fs G2 => rw [em] at h2; exact h2
    | bad => rw [em] at h2; exact h2
  | ex c fs G1 => unfold mCall at h; rw [e] at h; exact h
  | bad => unfold mCall at h; rw [e] at h; exact h
theorem s_call {x : Str} {p : Pos} {k : Nat} {ps : List Str} {dws : List W} {m : List W → GH → R W} {e : Expr} {es : List Expr} {ma : M (List W)} (C : Callable X.prog X.w X.K X.mg X.base ca k x ps dws m) (hr : Room k X.A) (hg : Gl X x) (tk : L2N.Takes X Wx)
    (ha : PA X (e :: es) (tA X.K ca Wx ma)) (hn : ∀ ws τ G G1, ma τ G = .ok ws G1 → (ws ++ dws).length = ps.length) (hdb : (x == ("__debug__" : Str)) = false := by decide)
    (he : starEach (e :: es) X.env = (false, eval e X.env) :: starEach es X.env := by rfl) (hpl : (backTo pos (starEach es X.env)).any (·.1) = false := by rfl) :
    PE X (.Call (.Name x p) (e :: es) [] pos) (tE X.K ca Wx (mCall m dws ma)) := by
  obtain ⟨f, fd, dvs, ds, gm, kp, b, hv, hd, F⟩ := C.ex
  exact PE.weak (pe_callSD F hr hg gm kp b hv (fun σ => L2N.passAt tk σ) ha hdb he hpl) fun σ H Q h => call_in hd hn h
theorem len_nil : ∀ ws τ G G1, mNil τ G = .ok ws G1 → ws.length = 0 := fun ws τ G G1 e => by cases e; rfl
theorem len_cons {m : M T} {ms : M (List W)} {n : Nat} (h : ∀ ws τ G G1, ms τ G = .ok ws G1 → ws.length = n) : ∀ ws τ G G1, mCons m ms τ G = .ok ws G1 → ws.length = n + 1 := fun ws τ G G1 e => by
  unfold mCons at e
  cases e1 : (m τ G).bind force with
  | ok w G2 =>
    rw [e1] at e
    cases e2 : ms τ G2 with
    | ok us G3 =>
      have e' : ((ms τ G2).bind fun ws G2 => R.ok (w :: ws) G2) = R.ok ws G1 := e
      rw [e2] at e'
      cases e'
      rw [List.length_cons, h us τ G2 _ e2]
    | ex _ _ _ =>
      have e' : ((ms τ G2).bind fun ws G2 => R.ok (w :: ws) G2) = R.ok ws G1 := e
      rw [e2] at e'; cases e'
    | bad =>
      have e' : ((ms τ G2).bind fun ws G2 => R.ok (w :: ws) G2) = R.ok ws G1 := e
      rw [e2] at e'; cases e'
  | ex _ _ _ => rw [e1] at e; cases e
  | bad => rw [e1] at e; cases e
theorem len_dws {ma : M (List W)} {dws : List W} {n k : Nat} (h : ∀ ws τ G G1, ma τ G = .ok ws G1 → ws.length = n) (hk : n + dws.length = k) : ∀ ws τ G G1, ma τ G = .ok ws G1 → (ws ++ dws).length = k := fun ws τ G G1 e => by
  rw [List.length_append, h ws τ G G1 e, hk]

/-! built-ins -/
def SaysC (X : Cx) (ca : Nat → Addr) (r : List V → Hp → VK → Prop) (f : List T → GH → R T) : Prop :=
  ∀ (Wx : WX) (σ : SSt) (ρ : List Addr) (G : GH) (H H0 : Hp) (xs : List V) (ts : List T) (Q : VK), Rep X.K ca ρ G H → RelTs X.K ca H0 ρ H xs ts →
    Post X.K ca Wx σ ρ H (fun t _ ρ' H' => ∀ v, RelT X.K ca H ρ' H' v t → Q v H') (f ts G) → r xs H Q
def mBi (f : List T → GH → R T) (ma : M (List T)) : M T := fun τ G => (ma τ G).bind f
theorem bi_in {r : List V → Hp → VK → Prop} {f : List T → GH → R T} (hs : SaysC X ca r f) {ma : M (List T)} {σ : SSt} {H : Hp} {Q : VK} (h : tE X.K ca Wx (mBi f ma) σ H Q) : tCB r (tB X.K ca Wx ma) σ H Q := by
  obtain ⟨ρ, G, τ, r0, s0, h⟩ := h
  refine tB.seq r0 s0 h fun ts G1 ρ1 H1 vs x1 r1 s1 q1 h1 => ?_
  exact hs Wx σ ρ1 G1 H1 H vs ts Q r1 q1 (h1.imp fun t G' ρ' H' x' _ q v rv => q v (rv.back x1 x'))
theorem s_bi {x : Str} {id : String} {p : Pos} {r : List V → Hp → VK → Prop} {f : List T → GH → R T} {e : Expr} {es : List Expr} {ma : M (List T)} (hc : CallR X (.builtin id) r) (hs : SaysC X ca r f) (hg : Gl X x) (hm : X.mg x = none) (hv : bootBuiltins x = some (.builtin id)) (ha : PA X (e :: es) (tB X.K ca Wx ma))
    (hn : x ≠ "__name__" := by decide) (hdb : (x == ("__debug__" : Str)) = false := by decide) (he : starEach (e :: es) X.env = (false, eval e X.env) :: starEach es X.env := by rfl) (hpl : (backTo pos (starEach es X.env)).any (·.1) = false := by rfl) :
    PE X (.Call (.Name x p) (e :: es) [] pos) (tE X.K ca Wx (mBi f ma)) := PE.weak (pe_callB hc hg hm hv ha hn hdb he hpl) fun _ _ _ h => bi_in hs h
theorem s_bty {x : Str} {id : String} {p : Pos} {r : List V → Hp → VK → Prop} {f : List T → GH → R T} {e : Expr} {es : List Expr} {ma : M (List T)} (hc : CallR X (.type id) r) (hs : SaysC X ca r f) (hg : Gl X x) (hm : X.mg x = none) (hv : bootBuiltins x = some (.type id)) (ha : PA X (e :: es) (tB X.K ca Wx ma))
    (hn : x ≠ "__name__" := by decide) (hdb : (x == ("__debug__" : Str)) = false := by decide) (he : starEach (e :: es) X.env = (false, eval e X.env) :: starEach es X.env := by rfl) (hpl : (backTo pos (starEach es X.env)).any (·.1) = false := by rfl) :
    PE X (.Call (.Name x p) (e :: es) [] pos) (tE X.K ca Wx (mBi f ma)) := PE.weak (pe_callTy hc hg hm hv ha hn hdb he hpl) fun _ _ _ h => bi_in hs h
end
end Sy
set_option Elab.async false
set_option linter.all false
set_option maxRecDepth 100000
set_option maxHeartbeats 4000000
namespace Sy
open PySem PySem.Spec PyProof.Rows L2

section
variable {X : Cx} {ca : Nat → Addr} {Wx : WX} {pos : Pos}
/-! len -/
def fLen (ts : List T) (G : GH) : R T := match ts with
  | [.val (.str x)] => if x.length ≤ 16777216 then .ok (.val (.int x.length)) G else .bad
  | [.val (.tup ws)] => .ok (.val (.int ws.length)) G
  | [t] => match rdl t G with
    | some ws => .ok (.val (.int ws.length)) G
    | none => .bad
  | _ => .bad
theorem says_len : SaysC X ca (fun xs H Q => ∃ x n, xs = [x] ∧ LenV X.K x H n ∧ Q (.int n) H) fLen := by
  intro Wx σ ρ G H H0 xs ts Q r q h
  unfold fLen at h
  split at h
  · obtain ⟨v, rfl, qv⟩ := relTs_one q
    cases qv
    split at h
    · rename_i z
      exact ⟨_, _, rfl, ⟨by rw [sizeLine_eq]; exact z, rfl⟩, h ρ H .refl r _ (.int _)⟩
    · exact h.elim
  · obtain ⟨v, rfl, qv⟩ := relTs_one q
    obtain ⟨a, vs, rfl, hv, qs⟩ := relW_tup qv
    exact ⟨_, _, rfl, .inr ⟨vs, hv, rfl⟩, h ρ H .refl r _ (by rw [qs.length]; exact .int _)⟩
  · rename_i t _ _
    obtain ⟨v, rfl, qv⟩ := relTs_one q
    cases e : rdl t G with
    | none => rw [e] at h; exact h.elim
    | some ws =>
      rw [e] at h
      obtain ⟨a, vs, rfl, hv, qs⟩ := rdl_of r qv e
      exact ⟨_, _, rfl, .inl ⟨vs, hv, rfl⟩, h ρ H .refl r _ (by rw [qs.length]; exact .int _)⟩
  · exact h.elim
/-! all, any, sum -/
def blsW : List W → Option (List Bool)
  | [] => some []
  | w :: ws => match w with
    | .bl b => (blsW ws).map (b :: ·)
    | _ => none
def intsW : List W → Option (List Int)
  | [] => some []
  | w :: ws => match w with
    | .int b => (intsW ws).map (b :: ·)
    | _ => none
theorem blsW_of {K : PySem.W.Frag} {ρ : List Addr} {H : Hp} : ∀ {vs : List V} {ws : List W} {bs : List Bool}, RelWs K ca ρ H vs ws → blsW ws = some bs → vs = bs.map V.bl
  | _, [], _, .nil, e => by cases e; rfl
  | _, w :: ws, bs, .cons q t, e => by
    unfold blsW at e
    cases w with
    | bl b =>
      cases e2 : blsW ws with
      | none => dsimp only at e; rw [e2] at e; cases e
      | some cs =>
        dsimp only at e
        rw [e2] at e
        cases e
        cases q
        rw [blsW_of t e2]
        rfl
    | _ => cases e
theorem intsW_of {K : PySem.W.Frag} {ρ : List Addr} {H : Hp} : ∀ {vs : List V} {ws : List W} {bs : List Int}, RelWs K ca ρ H vs ws → intsW ws = some bs → vs = bs.map V.int
  | _, [], _, .nil, e => by cases e; rfl
  | _, w :: ws, bs, .cons q t, e => by
    unfold intsW at e
    cases w with
    | int b =>
      cases e2 : intsW ws with
      | none => dsimp only at e; rw [e2] at e; cases e
      | some cs =>
        dsimp only at e
        rw [e2] at e
        cases e
        cases q
        rw [intsW_of t e2]
        rfl
    | _ => cases e
def fAll (ts : List T) (G : GH) : R T := match ts with
  | [t] => match (rdl t G).bind blsW with
    | some bs => .ok (.val (.bl (bs.all id))) G
    | none => .bad
  | _ => .bad
def fAny (ts : List T) (G : GH) : R T := match ts with
  | [t] => match (rdl t G).bind blsW with
    | some bs => .ok (.val (.bl (bs.any id))) G
    | none => .bad
  | _ => .bad
def fSum (ts : List T) (G : GH) : R T := match ts with
  | [t] => match (rdl t G).bind intsW with
    | some bs => .ok (.val (.int bs.sum)) G
    | none => .bad
  | _ => .bad
theorem says_all : SaysC X ca (rAll X.K) fAll := by
  intro Wx σ ρ G H H0 xs ts Q r q h
  unfold fAll at h
  split at h
  · rename_i t
    obtain ⟨v, rfl, qv⟩ := relTs_one q
    cases e : rdl t G with
    | none => rw [e] at h; exact h.elim
    | some ws =>
      cases e2 : blsW ws with
      | none => rw [e, Option.bind_some, e2] at h; exact h.elim
      | some bs =>
        rw [e, Option.bind_some, e2] at h
        obtain ⟨a, vs, rfl, hv, qs⟩ := rdl_of r qv e
        exact ⟨a, bs, rfl, by rw [← blsW_of qs e2]; exact hv, h ρ H .refl r _ (.bl _)⟩
  · exact h.elim
theorem says_any : SaysC X ca (rAny X.K) fAny := by
  intro Wx σ ρ G H H0 xs ts Q r q h
  unfold fAny at h
  split at h
  · rename_i t
    obtain ⟨v, rfl, qv⟩ := relTs_one q
    cases e : rdl t G with
    | none => rw [e] at h; exact h.elim
    | some ws =>
      cases e2 : blsW ws with
      | none => rw [e, Option.bind_some, e2] at h; exact h.elim
      | some bs =>
        rw [e, Option.bind_some, e2] at h
        obtain ⟨a, vs, rfl, hv, qs⟩ := rdl_of r qv e
        exact ⟨a, bs, rfl, by rw [← blsW_of qs e2]; exact hv, h ρ H .refl r _ (.bl _)⟩
  · exact h.elim
theorem says_sum : SaysC X ca (rSum X.K) fSum := by
  intro Wx σ ρ G H H0 xs ts Q r q h
  unfold fSum at h
  split at h
  · rename_i t
    obtain ⟨v, rfl, qv⟩ := relTs_one q
    cases e : rdl t G with
    | none => rw [e] at h; exact h.elim
    | some ws =>
      cases e2 : intsW ws with
      | none => rw [e, Option.bind_some, e2] at h; exact h.elim
      | some bs =>
        rw [e, Option.bind_some, e2] at h
        obtain ⟨a, vs, rfl, hv, qs⟩ := rdl_of r qv e
        exact ⟨a, bs, rfl, by rw [← intsW_of qs e2]; exact hv, h ρ H .refl r _ (.int _)⟩
  · exact h.elim
/-! int, list, tuple, divmod -/
def fInt (ts : List T) (G : GH) : R T := match ts with
  | [.val (.int i)] => .ok (.val (.int i)) G
  | [.val (.bl b)] => .ok (.val (.int (if b then 1 else 0))) G
  | _ => .bad
theorem says_int : SaysC X ca (fun xs H Q => (∃ i, xs = [.int i] ∧ Q (.int i) H) ∨ ∃ k, xs = [.bl k] ∧ Q (.int (if k then 1 else 0)) H) fInt := by
  intro Wx σ ρ G H H0 xs ts Q r q h
  unfold fInt at h
  split at h
  · obtain ⟨v, rfl, qv⟩ := relTs_one q
    cases qv
    exact .inl ⟨_, rfl, h ρ H .refl r _ (.int _)⟩
  · obtain ⟨v, rfl, qv⟩ := relTs_one q
    cases qv
    exact .inr ⟨_, rfl, h ρ H .refl r _ (.int _)⟩
  · exact h.elim
def fList (ts : List T) (G : GH) : R T := match ts with
  | [.val (.tup ws)] => .ok (.tmp ws) G
  | [t] => match rdl t G with
    | some ws => .ok (.tmp ws) G
    | none => .bad
  | _ => .bad
theorem says_list : SaysC X ca (fun xs H Q => ∃ p ys, xs = [.ref p] ∧ (SqL X.K H p ys ∨ SqT X.K H p ys) ∧ ∀ l, H l = none → Q (.ref l) (upd H l (.lst ys))) fList := by
  intro Wx σ ρ G H H0 xs ts Q r q h
  unfold fList at h
  split at h
  · obtain ⟨v, rfl, qv⟩ := relTs_one q
    obtain ⟨a, vs, rfl, hv, qs⟩ := relW_tup qv
    exact ⟨a, vs, rfl, .inr hv, fun l hl => h ρ _ (.laid hl) (r.laid hl) _ (fresh_tmp r hl qs)⟩
  · rename_i t _
    obtain ⟨v, rfl, qv⟩ := relTs_one q
    cases e : rdl t G with
    | none => rw [e] at h; exact h.elim
    | some ws =>
      rw [e] at h
      obtain ⟨a, vs, rfl, hv, qs⟩ := rdl_of r qv e
      exact ⟨a, vs, rfl, .inl hv, fun l hl => h ρ _ (.laid hl) (r.laid hl) _ (fresh_tmp r hl qs)⟩
  · exact h.elim
def fTuple (ts : List T) (G : GH) : R T := match ts with
  | [.val (.tup ws)] => .ok (.val (.tup ws)) G
  | [t] => match rdl t G with
    | some ws => .ok (.val (.tup ws)) G
    | none => .bad
  | _ => .bad
theorem says_tuple : SaysC X ca (fun xs H Q => ∃ p ys, xs = [.ref p] ∧ ((SqL X.K H p ys ∧ ∀ l, H l = none → Q (.ref l) (upd H l (.tup ys))) ∨ (SqT X.K H p ys ∧ Q (.ref p) H))) fTuple := by
  intro Wx σ ρ G H H0 xs ts Q r q h
  unfold fTuple at h
  split at h
  · obtain ⟨v, rfl, qv⟩ := relTs_one q
    have qv' : RelW X.K ca ρ H v _ := qv
    obtain ⟨a, vs, rfl, hv, qs⟩ := relW_tup qv'
    exact ⟨a, vs, rfl, .inr ⟨hv, h ρ H .refl r _ qv'⟩⟩
  · rename_i t _
    obtain ⟨v, rfl, qv⟩ := relTs_one q
    cases e : rdl t G with
    | none => rw [e] at h; exact h.elim
    | some ws =>
      rw [e] at h
      obtain ⟨a, vs, rfl, hv, qs⟩ := rdl_of r qv e
      exact ⟨a, vs, rfl, .inl ⟨hv, fun l hl => h ρ _ (.laid hl) (r.laid hl) _ (RelW.tup' (.of upd_same) (relWs_ext qs r (.laid hl)))⟩⟩
  · exact h.elim
def fDivmod (ts : List T) (G : GH) : R T := match ts with
  | [.val (.int i), .val (.int j)] => if decide (0 < j) && decide (j < 1073741824) then .ok (.val (.tup [.int (i / j), .int (i % j)])) G else .bad
  | _ => .bad
theorem says_divmod : SaysC X ca (fun xs H Q => ∃ i j, xs = [.int i, .int j] ∧ CDiv i j ∧ ∀ p, H p = none → Q (.ref p) (upd H p (.tup [.int (i / j), .int (i % j)]))) fDivmod := by
  intro Wx σ ρ G H H0 xs ts Q r q h
  unfold fDivmod at h
  split at h
  · split at h
    · rename_i z
      obtain ⟨v, u, rfl, qv, qu⟩ := relTs_two q
      cases qv; cases qu
      rw [Bool.and_eq_true] at z
      exact ⟨_, _, rfl, ⟨of_decide_eq_true z.1, of_decide_eq_true z.2⟩, fun l hl => h ρ _ (.laid hl) (r.laid hl) _ (RelW.tup' (.of upd_same) (.cons (.int _) (.cons (.int _) .nil)))⟩
    · exact h.elim
  · exact h.elim
/-! isinstance against built-in types -/
def tyOf (G : GH) : T → Option String
  | .tmp _ => some "list"
  | .val w => match w with
    | .non => some "NoneType"
    | .bl _ => some "bool"
    | .int _ => some "int"
    | .str _ => some "str"
    | .tup _ => some "tuple"
    | .loc n => match G[n]? with
      | some (.lst _) => some "list"
      | some (.dK _) => some "dict"
      | some (.dT _) => some "dict"
      | _ => none
    | .frl _ => some "list"
    | .ty _ => none
    | .cls _ => none
    | .exn _ _ => none
def subTy (a b : String) : Option Bool :=
  if b = "int" then some (a == "int" || a == "bool") else if b = "bool" then some (a == "bool") else if b = "str" then some (a == "str")
  else if b = "list" then some (a == "list") else if b = "tuple" then some (a == "tuple") else if b = "dict" then some (a == "dict") else none
theorem subTy_ok {K : PySem.W.Frag} {a b : String} {r : Bool} (ha : a = "list" ∨ a = "NoneType" ∨ a = "bool" ∨ a = "int" ∨ a = "str" ∨ a = "tuple" ∨ a = "dict") (h : subTy a b = some r) : PySem.W.kitOne K (.type a) (.type b) = some r := by
  apply kit_ty
  unfold subTy at h
  split at h
  · rename_i e; subst e; rcases ha with rfl | rfl | rfl | rfl | rfl | rfl | rfl <;> (cases h; decide +kernel)
  · split at h
    · rename_i e; subst e; rcases ha with rfl | rfl | rfl | rfl | rfl | rfl | rfl <;> (cases h; decide +kernel)
    · split at h
      · rename_i e; subst e; rcases ha with rfl | rfl | rfl | rfl | rfl | rfl | rfl <;> (cases h; decide +kernel)
      · split at h
        · rename_i e; subst e; rcases ha with rfl | rfl | rfl | rfl | rfl | rfl | rfl <;> (cases h; decide +kernel)
        · split at h
          · rename_i e; subst e; rcases ha with rfl | rfl | rfl | rfl | rfl | rfl | rfl <;> (cases h; decide +kernel)
          · split at h
            · rename_i e; subst e; rcases ha with rfl | rfl | rfl | rfl | rfl | rfl | rfl <;> (cases h; decide +kernel)
            · cases h
theorem sqT_ty {K : PySem.W.Frag} {H : Hp} {a : Addr} {vs : List V} (h : SqT K H a vs) : TyX K H (.ref a) (.type "tuple") := by
  rcases h with h | ⟨o, its, n, hk, hc, _⟩
  · rcases h with h | ⟨o, h⟩
    · exact .base (.tup h)
    · exact .fTuple h
  · exact .kTuple hk hc
theorem tyOf_ok {K : PySem.W.Frag} {ρ : List Addr} {G : GH} {H H0 : Hp} {v : V} {t : T} {a : String} (r : Rep K ca ρ G H) (q : RelT K ca H0 ρ H v t) (h : tyOf G t = some a) :
    TyX K H v (.type a) ∧ (a = "list" ∨ a = "NoneType" ∨ a = "bool" ∨ a = "int" ∨ a = "str" ∨ a = "tuple" ∨ a = "dict") := by
  cases t with
  | tmp ws =>
    cases h
    obtain ⟨p, vs, rfl, _, _, hp, _⟩ := q
    exact ⟨.base (.lst hp), .inl rfl⟩
  | val w =>
    cases w with
    | non => cases h; cases q; exact ⟨.base .non, by simp⟩
    | bl b => cases h; cases q; exact ⟨.base (.bl b), by simp⟩
    | int b => cases h; cases q; exact ⟨.base (.int b), by simp⟩
    | str b => cases h; cases q; exact ⟨.base (.str b), by simp⟩
    | tup ws =>
      cases h
      obtain ⟨a, vs, rfl, hv, _⟩ := relW_tup q
      exact ⟨sqT_ty hv, by simp⟩
    | loc n =>
      cases q with
      | loc hn =>
        obtain ⟨o, e, ho⟩ := r.at hn
        unfold tyOf at h
        dsimp only at h
        rw [e] at h
        cases o with
        | lst ws => cases h; obtain ⟨vs, e, _⟩ := ho; exact ⟨.base (.lst e), by simp⟩
        | dK ws => cases h; obtain ⟨vs, e, _⟩ := ho; exact ⟨.base (.dK e), by simp⟩
        | dT ws => cases h; obtain ⟨vs, e, _⟩ := ho; exact ⟨.base (.dT e), by simp⟩
        | ins c fs => cases h
    | frl ws =>
      cases h
      obtain ⟨a, vs, rfl, hv, _⟩ := relW_frl q
      refine ⟨?_, by simp⟩
      rcases hv with ⟨o, hv⟩ | ⟨o, its, n, hk, hc, _⟩
      · exact .base (.frz hv)
      · exact .kList hk hc
    | ty n => cases h
    | cls n => cases h
    | exn n a => cases h
def fIsi (ts : List T) (G : GH) : R T := match ts with
  | [t, .val (.ty b)] => match (tyOf G t).bind fun a => subTy a b with
    | some r => .ok (.val (.bl r)) G
    | none => .bad
  | _ => .bad
theorem says_isi : SaysC X ca (rIsi X.K) fIsi := by
  intro Wx σ ρ G H H0 xs ts Q r q h
  unfold fIsi at h
  split at h
  · rename_i t b
    obtain ⟨v, u, rfl, qv, qu⟩ := relTs_two q
    cases qu
    cases e : tyOf G t with
    | none => rw [e] at h; exact h.elim
    | some a =>
      cases e2 : subTy a b with
      | none => rw [e, Option.bind_some, e2] at h; exact h.elim
      | some c =>
        rw [e, Option.bind_some, e2] at h
        obtain ⟨h1, h2⟩ := tyOf_ok r qv e
        exact ⟨v, .ty b, .type a, .type b, c, rfl, .ty b, h1, subTy_ok h2 e2, h ρ H .refl r _ (.bl _)⟩
  · exact h.elim
/-- a built-in class as a value -/
theorem s_ty {x : Str} {n : String} (hg : Gl X x) (hm : X.mg x = none) (hv : bootBuiltins x = some (.type n)) (hn : x ≠ "__name__" := by decide) (hd : (x == ("__debug__" : Str)) = false := by decide) : PE X (.Name x pos) (tE X.K ca Wx (mC (.ty n))) :=
  s_const (pe_bltn (v := .ty n) hg hm hv rfl hn hd) fun _ _ => .ty n

/-! in, not in -/
def strIn (i j : Str) : Bool := !(Builtin.Str.occurrences j i 0 j.length 1).isEmpty
def vOf : W → Option V
  | .non => some .non | .bl b => some (.bl b) | .int i => some (.int i) | .str x => some (.str x) | _ => none
def inB (x y : T) (G : GH) : Option Bool := match y with
  | .val (.str j) => match x with
    | .val (.str i) => some (strIn i j)
    | _ => none
  | .val (.tup ws) => match x with
    | .val w => (vOf w).bind fun v => (mapO vOf ws).bind fun vs => some (inV v vs)
    | _ => none
  | y => match toDT G x, toDT G y with
    | some d, some (.list ds) => some (ds.any fun z => PyData.eqv z d)
    | _, _ => none
def fIn (x y : T) (G : GH) : R T := match inB x y G with
  | some b => .ok (.val (.bl b)) G
  | none => .bad
def fNotIn (x y : T) (G : GH) : R T := match inB x y G with
  | some b => .ok (.val (.bl (!b))) G
  | none => .bad
def rInA (K : PySem.W.Frag) : R2 := fun x y H Q => rInD K x y H Q ∨ rIn K false x y H Q ∨ (∃ i j, x = .str i ∧ y = .str j ∧ Q (.bl (!(Builtin.Str.occurrences j i 0 j.length 1).isEmpty)) H)
def rNotInA (K : PySem.W.Frag) : R2 := fun x y H Q => rNotInD K x y H Q ∨ rIn K true x y H Q ∨ (∃ i j, x = .str i ∧ y = .str j ∧ Q (.bl (!(!(Builtin.Str.occurrences j i 0 j.length 1).isEmpty))) H)
theorem op_inA (hu : X.A.units + 65 < cLine) : OpR X (compareOp .In) (rInA X.K) := (op_inD hu).or (op_in_seq.or op_in_str)
theorem op_notInA (hu : X.A.units + 65 < cLine) : OpR X (compareOp .NotIn) (rNotInA X.K) := (op_notInD hu).or (op_notIn_seq.or op_notin_str)
theorem vOf_ok {K : PySem.W.Frag} {ρ : List Addr} {H : Hp} {v v' : V} {w : W} (q : RelW K ca ρ H v w) (h : vOf w = some v') : v = v' ∧ flatV v' = true := by
  cases w with
  | non => cases q; cases h; exact ⟨rfl, rfl⟩
  | bl b => cases q; cases h; exact ⟨rfl, rfl⟩
  | int b => cases q; cases h; exact ⟨rfl, rfl⟩
  | str x => cases q; cases h; exact ⟨rfl, rfl⟩
  | _ => cases h
theorem vOfs_ok {K : PySem.W.Frag} {ρ : List Addr} {H : Hp} : ∀ {vs vs' : List V} {ws : List W}, RelWs K ca ρ H vs ws → mapO vOf ws = some vs' → vs = vs' ∧ vs'.all flatV = true
  | _, _, [], .nil, h => by cases h; exact ⟨rfl, rfl⟩
  | _, vs', w :: ws, .cons q t, h => by
    unfold mapO at h
    cases e1 : vOf w with
    | none => rw [e1] at h; cases h
    | some v =>
      cases e2 : mapO vOf ws with
      | none => rw [e1, e2] at h; cases h
      | some us =>
        rw [e1, e2] at h; cases h
        obtain ⟨rfl, f1⟩ := vOf_ok q e1
        obtain ⟨rfl, f2⟩ := vOfs_ok t e2
        exact ⟨rfl, by rw [List.all_cons, f1, f2]; rfl⟩
theorem in_ok {K : PySem.W.Frag} {ρ : List Addr} {G : GH} {H H0 : Hp} {x y : V} {s t : T} {b : Bool} (r : Rep K ca ρ G H) (qx : RelT K ca H0 ρ H x s) (qy : RelT K ca H0 ρ H y t) (e : inB s t G = some b) :
    (∃ d ds, Dp K H x d ∧ Dp K H y (.list ds) ∧ SeqAt.shaped d = true ∧ SeqAt.shaped (.list ds) = true ∧ b = ds.any fun z => PyData.eqv z d) ∨ (∃ i j, x = .str i ∧ y = .str j ∧ b = strIn i j) ∨
      ∃ p xs, y = .ref p ∧ (SqL K H p xs ∨ SqT K H p xs) ∧ flatV x = true ∧ xs.all flatV = true ∧ b = inV x xs := by
  unfold inB at e
  split at e
  · split at e
    · cases qx; cases qy; cases e
      exact .inr (.inl ⟨_, _, rfl, rfl, rfl⟩)
    · cases e
  · rename_i ws
    split at e
    · rename_i w
      cases e1 : vOf w with
      | none => rw [e1] at e; cases e
      | some v =>
        cases e2 : mapO vOf ws with
        | none => rw [e1, e2] at e; cases e
        | some us =>
          rw [e1, e2] at e; cases e
          obtain ⟨a, vs, rfl, hv, qs⟩ := relW_tup qy
          obtain ⟨rfl, f1⟩ := vOf_ok qx e1
          obtain ⟨rfl, f2⟩ := vOfs_ok qs e2
          exact .inr (.inr ⟨a, vs, rfl, .inr hv, f1, f2, rfl⟩)
    · cases e
  · split at e
    · rename_i d ds e1 e2
      cases e
      obtain ⟨a1, a2⟩ := toDT_dp r qx e1
      obtain ⟨b1, b2⟩ := toDT_dp r qy e2
      exact .inl ⟨d, ds, a1, b1, a2, b2, rfl⟩
    · cases e
theorem says_isin : Says2 X ca (rInA X.K) fIn := by
  intro Wx σ ρ G H H0 x y s t Q r qx qy hp
  unfold fIn at hp
  cases e : inB s t G with
  | none => rw [e] at hp; exact hp.elim
  | some b =>
    rw [e] at hp
    have q := hp ρ H .refl r _ (.bl b)
    rcases in_ok r qx qy e with ⟨d, ds, a, b', c, d', rfl⟩ | ⟨i, j, rfl, rfl, rfl⟩ | ⟨p, xs, rfl, hq, f1, f2, rfl⟩
    · exact .inl ⟨d, ds, a, b', c, d', q⟩
    · exact .inr (.inr ⟨i, j, rfl, rfl, q⟩)
    · exact .inr (.inl ⟨p, xs, rfl, hq, f1, f2, q⟩)
theorem says_notIn : Says2 X ca (rNotInA X.K) fNotIn := by
  intro Wx σ ρ G H H0 x y s t Q r qx qy hp
  unfold fNotIn at hp
  cases e : inB s t G with
  | none => rw [e] at hp; exact hp.elim
  | some b =>
    rw [e] at hp
    have q := hp ρ H .refl r _ (.bl (!b))
    rcases in_ok r qx qy e with ⟨d, ds, a, b', c, d', rfl⟩ | ⟨i, j, rfl, rfl, rfl⟩ | ⟨p, xs, rfl, hq, f1, f2, rfl⟩
    · exact .inl ⟨d, ds, a, b', c, d', q⟩
    · exact .inr (.inr ⟨i, j, rfl, rfl, q⟩)
    · exact .inr (.inl ⟨p, xs, rfl, hq, f1, f2, q⟩)

/-! subscripts -/
def fIx (x y : T) (G : GH) : R T := match y with
  | .val (.int i) => match x with
    | .val (.str z) => if z.length ≤ 16777216 then match atI z.cps.toList i with
        | some c => .ok (.val (.str ⟨#[c]⟩)) G
        | none => .bad
      else .bad
    | .val (.tup ws) => match atI ws i with
      | some w => .ok (.val w) G
      | none => .bad
    | t => match (rdl t G).bind fun ws => atI ws i with
      | some w => .ok (.val w) G
      | none => .bad
  | _ => .bad
theorem relWs_atI {K : PySem.W.Frag} {ρ : List Addr} {H : Hp} {vs : List V} {ws : List W} {i : Int} {w : W} (q : RelWs K ca ρ H vs ws) (e : atI ws i = some w) : ∃ v, atI vs i = some v ∧ RelW K ca ρ H v w := by
  unfold atI at e ⊢
  rw [q.length]
  cases e1 : ixN ws.length i with
  | none => rw [e1] at e; cases e
  | some j =>
    rw [e1] at e
    exact relWs_get q e
theorem says_ix : Says2 X ca (rIx X.K) fIx := by
  intro Wx σ ρ G H H0 x y s t Q r qx qy hp
  unfold fIx at hp
  split at hp
  · rename_i i
    cases qy
    split at hp
    · rename_i z
      cases qx
      split at hp
      · rename_i hz
        cases e : atI z.cps.toList i with
        | none => rw [e] at hp; exact hp.elim
        | some c =>
          rw [e] at hp
          exact .inr (.inr ⟨z, i, c, rfl, rfl, by rw [sizeLine_eq]; exact hz, e, hp ρ H .refl r _ (.str _)⟩)
      · exact hp.elim
    · rename_i ws
      obtain ⟨a, vs, rfl, hv, qs⟩ := relW_tup qx
      cases e : atI ws i with
      | none => rw [e] at hp; exact hp.elim
      | some w =>
        rw [e] at hp
        obtain ⟨v, e2, q2⟩ := relWs_atI qs e
        exact .inr (.inl ⟨a, vs, i, v, rfl, rfl, hv, e2, hp ρ H .refl r v q2⟩)
    · cases e : rdl s G with
      | none => rw [e] at hp; exact hp.elim
      | some ws =>
        rw [e, Option.bind_some] at hp
        cases e1 : atI ws i with
        | none => rw [e1] at hp; exact hp.elim
        | some w =>
          rw [e1] at hp
          obtain ⟨a, vs, rfl, hv, qs⟩ := rdl_of r qx e
          obtain ⟨v, e2, q2⟩ := relWs_atI qs e1
          exact .inl ⟨a, vs, i, v, rfl, rfl, hv, e2, hp ρ H .refl r v q2⟩
  · exact hp.elim
theorem s_ix {a b : Expr} {ma mb : M T} (ha : PE X a (tE X.K ca Wx ma)) (hb : PE X b (tE X.K ca Wx mb)) (hs : PlainIx b := by exact fun _ _ => rfl) : PE X (.Subscript a b pos) (tE X.K ca Wx (mBin fIx ma mb)) :=
  PE.weak (pe_ix ix_seq ha hb hs) fun _ _ _ h => Sy.says_in (f := fIx) says_ix h
end
end Sy
set_option Elab.async false
set_option linter.all false
set_option maxRecDepth 100000
set_option maxHeartbeats 4000000
namespace Sy
open PySem PySem.Spec PyProof.Rows L2

section
variable {K : PySem.W.Frag} {ca : Nat → Addr} {ρ : List Addr} {G : GH} {H : Hp}
/-- a list is changed -/
theorem Rep.put (r : Rep K ca ρ G H) {n : Nat} {a : Addr} {us vs : List V} {ws : List W} (hn : ρ[n]? = some a) (ha : H a = some (.lst us)) (q : RelWs K ca ρ H vs ws) : Rep K ca ρ (G.set n (.lst ws)) (upd H a (.lst vs)) := by
  have nt := ns_lst ha
  refine ⟨by rw [List.length_set]; exact r.len, r.nd, fun m b o e1 e2 => ?_⟩
  by_cases hm : n = m
  · subst hm
    rw [hn] at e1
    cases e1
    rw [List.getElem?_set_self (by rw [← r.len]; exact (List.getElem?_eq_some_iff.mp hn).1)] at e2
    cases e2
    exact ⟨vs, upd_same, paired_imp q fun _ _ z => z.mono (fun _ _ h => h) (Stay.put nt)⟩
  · rw [List.getElem?_set_ne hm] at e2
    refine objR_mono (r.obj m b o e1 e2) (fun _ _ h => h) (Stay.put nt) (upd_ne fun e => hm ?_)
    subst e
    exact (nodup_at r.nd hn e1)
where
  nodup_at {ρ : List Addr} (h : ρ.Nodup) {i j : Nat} {a : Addr} (e1 : ρ[i]? = some a) (e2 : ρ[j]? = some a) : i = j := by
    obtain ⟨h1, e1⟩ := List.getElem?_eq_some_iff.mp e1
    obtain ⟨h2, e2⟩ := List.getElem?_eq_some_iff.mp e2
    exact (List.getElem_inj h).mp (e1.trans e2.symm)
theorem Ext.put {n : Nat} {a : Addr} {o : HO} (hn : ρ[n]? = some a) : Ext ρ H ρ (upd H a o) :=
  ⟨fun _ _ h => h, fun _ h => .inl h, fun b u hb e => by
    have nb : b ≠ a := fun z => by subst z; exact hb (List.mem_of_getElem? hn)
    rw [upd_ne nb]; exact e⟩
end

section
variable {X : Cx} {ca : Nat → Addr} {Wx : WX} {pos : Pos}
/-! methods of lists -/
def SaysM (X : Cx) (ca : Nat → Addr) (r : V → List V → Hp → VK → Prop) (f : T → List T → GH → R T) : Prop :=
  ∀ (Wx : WX) (σ : SSt) (ρ : List Addr) (G : GH) (H H0 : Hp) (x : V) (t : T) (xs : List V) (ts : List T) (Q : VK), Rep X.K ca ρ G H → RelT X.K ca H0 ρ H x t → RelTs X.K ca H0 ρ H xs ts →
    Post X.K ca Wx σ ρ H (fun t _ ρ' H' => ∀ v, RelT X.K ca H ρ' H' v t → Q v H') (f t ts G) → r x xs H Q
def isLst (t : T) (G : GH) : Bool := (rdl t G).isSome
def isStr : T → GH → Bool
  | .val (.str _), _ => true
  | _, _ => false
def mMt (ty : T → GH → Bool) (f : T → List T → GH → R T) (mo : M T) (ma : M (List T)) : M T := fun τ G => (mo τ G).bind fun x G1 => if ty x G1 then (ma τ G1).bind fun ts G2 => f x ts G2 else .bad
def TyOk (X : Cx) (ca : Nat → Addr) (ty : T → GH → Bool) (n : String) : Prop := ∀ (ρ : List Addr) (G : GH) (H H0 : Hp) (x : V) (t : T), Rep X.K ca ρ G H → RelT X.K ca H0 ρ H x t → ty t G = true → tyV X.K n x H
theorem ty_list : TyOk X ca isLst "list" := by
  intro ρ G H H0 x t r q h
  unfold isLst at h
  cases e : rdl t G with
  | none => rw [e] at h; cases h
  | some ws =>
    obtain ⟨a, vs, rfl, hv, _⟩ := rdl_of r q e
    exact .inl ⟨rfl, vs, hv⟩
theorem ty_str : TyOk X ca isStr "str" := by
  intro ρ G H H0 x t r q h
  unfold isStr at h
  split at h
  · cases q; exact rfl
  · cases h
theorem mt_in {r : V → List V → Hp → VK → Prop} {f : T → List T → GH → R T} {ty : T → GH → Bool} {n : String} (hs : SaysM X ca r f) (ht : TyOk X ca ty n) {mo : M T} {ma : M (List T)} {σ : SSt} {H : Hp} {Q : VK} (h : tE X.K ca Wx (mMt ty f mo ma) σ H Q) :
    tBM X.K n r (tE X.K ca Wx mo) (tB X.K ca Wx ma) σ H Q := by
  obtain ⟨ρ, G, τ, r0, s0, h⟩ := h
  refine tE.seq r0 s0 h fun t G1 ρ1 H1 v x1 r1 s1 q1 h1 => ?_
  cases e : ty t G1 with
  | false => rw [e] at h1; exact h1.elim
  | true =>
    rw [e, if_pos rfl] at h1
    refine ⟨ht ρ1 G1 H1 H v t r1 q1 e, tB.seq r1 s1 h1 fun ts G2 ρ2 H2 vs x2 r2 s2 q2 h2 => ?_⟩
    exact hs Wx σ ρ2 G2 H2 H v t vs ts Q r2 (q1.ext r1 x2) (paired_imp q2 fun _ _ z => z.back x1 x2) (h2.imp fun t G' ρ' H' x' _ q v rv => q v (rv.back (x1.trans x2) x'))
theorem mt_in0 {r : V → List V → Hp → VK → Prop} {f : T → List T → GH → R T} {ty : T → GH → Bool} {n : String} (hs : SaysM X ca r f) (ht : TyOk X ca ty n) {mo : M T} {σ : SSt} {H : Hp} {Q : VK} (h : tE X.K ca Wx (mMt ty f mo mNilT) σ H Q) :
    tBM0 X.K n r (tE X.K ca Wx mo) σ H Q := by
  obtain ⟨ρ, G, τ, r0, s0, h⟩ := h
  refine tE.seq r0 s0 h fun t G1 ρ1 H1 v x1 r1 s1 q1 h1 => ?_
  cases e : ty t G1 with
  | false => rw [e] at h1; exact h1.elim
  | true =>
    rw [e, if_pos rfl] at h1
    exact ⟨ht ρ1 G1 H1 H v t r1 q1 e, hs Wx σ ρ1 G1 H1 H v t [] [] Q r1 q1 .nil (h1.imp fun t G' ρ' H' x' _ q v rv => q v (rv.back x1 x'))⟩
variable {o e : Expr} {es : List Expr} {name : Str} {apos cpos : Pos} {n id : String} {r : V → List V → Hp → VK → Prop} {f : T → List T → GH → R T} {ty : T → GH → Bool} {mo : M T} {ma : M (List T)}
theorem s_mt (pa : PlainAttrs n) (slot : Slot n name id) (hty : typeOf (.builtin id) = pure (.type "method_descriptor")) (hm : MtR X id r) (hs : SaysM X ca r f) (ht : TyOk X ca ty n) (ho : PE X o (tE X.K ca Wx mo)) (ha : PA X (e :: es) (tB X.K ca Wx ma))
    (hbase : attributeBase o name X.env (eval o X.env) = eval o X.env := by rfl)
    (hfew : ((backTo cpos (starEach (e :: es) X.env)).all (fun x => !x.1) && (backToKw cpos (keywordEach [] X.env)).all (fun x => x.1.isSome)
      && decide ((e :: es).length + ([] : List Keyword).length + (if ([] : List Keyword).isEmpty then 0 else 1) < 30)) = true := by rfl)
    (hline : (apos.endLine == cpos.line) = true := by rfl) (hst : starEach (e :: es) X.env = (false, eval e X.env) :: starEach es X.env := by rfl) (hplain : (backTo cpos (starEach es X.env)).any (·.1) = false := by rfl) :
    PE X (.Call (.Attribute o name apos) (e :: es) [] cpos) (tE X.K ca Wx (mMt ty f mo ma)) := PE.weak (pe_bm pa slot hty hm ho ha hbase hfew hline hst hplain) fun _ _ _ h => mt_in hs ht h
theorem s_mt0 (pa : PlainAttrs n) (slot : Slot n name id) (hty : typeOf (.builtin id) = pure (.type "method_descriptor")) (hm : MtR X id r) (hs : SaysM X ca r f) (ht : TyOk X ca ty n) (ho : PE X o (tE X.K ca Wx mo))
    (hbase : attributeBase o name X.env (eval o X.env) = eval o X.env := by rfl) (hline : (apos.endLine == cpos.line) = true := by rfl) : PE X (.Call (.Attribute o name apos) [] [] cpos) (tE X.K ca Wx (mMt ty f mo mNilT)) :=
  PE.weak (pe_bm0 pa slot hty hm ho hbase hline) fun _ _ _ h => mt_in0 hs ht h

/-- the list at a place, to be changed -/
def lstAt (t : T) (G : GH) : Option (Nat × List W) := match t with
  | .val (.loc n) => (G[n]?.bind GO.wr).map fun ws => (n, ws)
  | _ => none
theorem lstAt_of {K : PySem.W.Frag} {ρ : List Addr} {G : GH} {H H0 : Hp} {v : V} {t : T} {n : Nat} {ws : List W} (r : Rep K ca ρ G H) (q : RelT K ca H0 ρ H v t) (h : lstAt t G = some (n, ws)) :
    ∃ a vs, v = .ref a ∧ ρ[n]? = some a ∧ H a = some (.lst vs) ∧ RelWs K ca ρ H vs ws := by
  cases t with
  | tmp us => cases h
  | val w =>
    cases w with
    | loc m =>
      cases q with
      | loc hn =>
        obtain ⟨o, e, ho⟩ := r.at hn
        have h : (G[m]?.bind GO.wr).map (fun ws => (m, ws)) = some (n, ws) := h
        rw [e] at h
        cases o with
        | lst us => cases h; obtain ⟨vs, e, q⟩ := ho; exact ⟨_, vs, rfl, hn, e, q⟩
        | _ => cases h
    | _ => cases h
/-! .. whose arguments are kept -/
def SaysMF (X : Cx) (ca : Nat → Addr) (r : V → List V → Hp → VK → Prop) (f : T → List W → GH → R T) : Prop :=
  ∀ (Wx : WX) (σ : SSt) (ρ : List Addr) (G : GH) (H H0 : Hp) (x : V) (t : T) (xs : List V) (ts : List W) (Q : VK), Rep X.K ca ρ G H → RelT X.K ca H0 ρ H x t → RelWs X.K ca ρ H xs ts →
    Post X.K ca Wx σ ρ H (fun t _ ρ' H' => ∀ v, RelT X.K ca H ρ' H' v t → Q v H') (f t ts G) → r x xs H Q
def mMtF (ty : T → GH → Bool) (f : T → List W → GH → R T) (mo : M T) (ma : M (List W)) : M T := fun τ G => (mo τ G).bind fun x G1 => if ty x G1 then (ma τ G1).bind fun ts G2 => f x ts G2 else .bad
theorem mtF_in {r : V → List V → Hp → VK → Prop} {f : T → List W → GH → R T} {ty : T → GH → Bool} {n : String} (hs : SaysMF X ca r f) (ht : TyOk X ca ty n) {mo : M T} {ma : M (List W)} {σ : SSt} {H : Hp} {Q : VK} (h : tE X.K ca Wx (mMtF ty f mo ma) σ H Q) :
    tBM X.K n r (tE X.K ca Wx mo) (tA X.K ca Wx ma) σ H Q := by
  obtain ⟨ρ, G, τ, r0, s0, h⟩ := h
  refine tE.seq r0 s0 h fun t G1 ρ1 H1 v x1 r1 s1 q1 h1 => ?_
  cases e : ty t G1 with
  | false => rw [e] at h1; exact h1.elim
  | true =>
    rw [e, if_pos rfl] at h1
    refine ⟨ht ρ1 G1 H1 H v t r1 q1 e, tA.seq r1 s1 h1 fun ts G2 ρ2 H2 vs x2 r2 s2 q2 h2 => ?_⟩
    exact hs Wx σ ρ2 G2 H2 H v t vs ts Q r2 (q1.ext r1 x2) q2 (h2.imp fun t G' ρ' H' x' _ q v rv => q v (rv.back (x1.trans x2) x'))
theorem s_mtF {f : T → List W → GH → R T} {ma : M (List W)} (pa : PlainAttrs n) (slot : Slot n name id) (hty : typeOf (.builtin id) = pure (.type "method_descriptor")) (hm : MtR X id r) (hs : SaysMF X ca r f) (ht : TyOk X ca ty n) (ho : PE X o (tE X.K ca Wx mo)) (ha : PA X (e :: es) (tA X.K ca Wx ma))
    (hbase : attributeBase o name X.env (eval o X.env) = eval o X.env := by rfl)
    (hfew : ((backTo cpos (starEach (e :: es) X.env)).all (fun x => !x.1) && (backToKw cpos (keywordEach [] X.env)).all (fun x => x.1.isSome)
      && decide ((e :: es).length + ([] : List Keyword).length + (if ([] : List Keyword).isEmpty then 0 else 1) < 30)) = true := by rfl)
    (hline : (apos.endLine == cpos.line) = true := by rfl) (hst : starEach (e :: es) X.env = (false, eval e X.env) :: starEach es X.env := by rfl) (hplain : (backTo cpos (starEach es X.env)).any (·.1) = false := by rfl) :
    PE X (.Call (.Attribute o name apos) (e :: es) [] cpos) (tE X.K ca Wx (mMtF ty f mo ma)) := PE.weak (pe_bm pa slot hty hm ho ha hbase hfew hline hst hplain) fun _ _ _ h => mtF_in hs ht h
/-- xs.append(y) -/
def fApp (t : T) (ws : List W) (G : GH) : R T := match ws with
  | [w] => match lstAt t G with
    | some (n, us) => if us.length < 16777216 then .ok (.val .non) (G.set n (.lst (us ++ [w]))) else .bad
    | none => .bad
  | _ => .bad
theorem says_app : SaysMF X ca rAppend fApp := by
  intro Wx σ ρ G H H0 x t xs ts Q r qx qs h
  unfold fApp at h
  split at h
  · rename_i w
    obtain ⟨v, rfl, qv⟩ := relWs_one qs
    split at h
    · rename_i m us e
      split at h
      · rename_i hz
        obtain ⟨a, vs, rfl, hn, ha, qa⟩ := lstAt_of r qx e
        refine ⟨a, vs, v, rfl, rfl, ha, by rw [sizeLine_eq, qa.length]; exact hz, ?_⟩
        exact h ρ _ (.put hn) (r.put hn ha (relWs_app qa (.cons qv .nil))) _ .non
      · exact h.elim
    · exact h.elim
  · exact h.elim
/-- xs.pop() -/
def fPop (t : T) (ts : List T) (G : GH) : R T := match ts with
  | [] => match lstAt t G with
    | some (n, us) => match us[us.length - 1]? with
      | some w => .ok (.val w) (G.set n (.lst us.dropLast))
      | none => .bad
    | none => .bad
  | _ => .bad
theorem relWs_dropLast {K : PySem.W.Frag} {ρ : List Addr} {H : Hp} {vs : List V} {ws : List W} (q : RelWs K ca ρ H vs ws) : RelWs K ca ρ H vs.dropLast ws.dropLast :=
  relWs_of (by rw [List.length_dropLast, List.length_dropLast, q.length]) fun i v w e1 e2 => by
    rw [List.getElem?_dropLast] at e1 e2
    split at e1
    · split at e2
      · exact paired_get q i v w e1 e2
      · cases e2
    · cases e1
theorem says_pop : SaysM X ca rPop fPop := by
  intro Wx σ ρ G H H0 x t xs ts Q r qx qs h
  unfold fPop at h
  split at h
  · cases qs
    split at h
    · rename_i m us e
      split at h
      · rename_i w e2
        obtain ⟨a, vs, rfl, hn, ha, qa⟩ := lstAt_of r qx e
        obtain ⟨v, e3, qv⟩ := relWs_get qa e2
        refine ⟨a, vs, v, rfl, rfl, ha, by rw [qa.length]; exact e3, ?_⟩
        exact h ρ _ (.put hn) (r.put hn ha (relWs_dropLast qa)) _ (qv.mono (fun _ _ h => h) (Stay.put (ns_lst ha)))
      · exact h.elim
    · exact h.elim
  · exact h.elim
/-- xs.extend(ys) -/
def fExt (t : T) (ts : List T) (G : GH) : R T := match ts with
  | [u] => match lstAt t G, wrl u G with
    | some (n, us), some ws => if us.length + ws.length ≤ 16777216 then .ok (.val .non) (G.set n (.lst (us ++ ws))) else .bad
    | _, _ => .bad
  | _ => .bad
theorem says_ext : SaysM X ca rExtend fExt := by
  intro Wx σ ρ G H H0 x t xs ts Q r qx qs h
  unfold fExt at h
  split at h
  · obtain ⟨v, rfl, qv⟩ := relTs_one qs
    split at h
    · rename_i m us ws e e2
      split at h
      · rename_i hz
        obtain ⟨a, vs, rfl, hn, ha, qa⟩ := lstAt_of r qx e
        obtain ⟨b, vs2, rfl, hb, qb⟩ := wrl_of r qv e2
        refine ⟨a, b, vs, vs2, rfl, rfl, ha, hb, by rw [sizeLine_eq, qa.length, qb.length]; exact hz, ?_⟩
        exact h ρ _ (.put hn) (r.put hn ha (relWs_app qa qb)) _ .non
      · exact h.elim
    · exact h.elim
  · exact h.elim
def fClr (t : T) (ts : List T) (G : GH) : R T := match ts with
  | [] => match lstAt t G with
    | some (n, _) => .ok (.val .non) (G.set n (.lst []))
    | none => .bad
  | _ => .bad
theorem says_clr : SaysM X ca rClear fClr := by
  intro Wx σ ρ G H H0 x t xs ts Q r qx qs h
  unfold fClr at h
  split at h
  · cases qs
    split at h
    · rename_i m us e
      obtain ⟨a, vs, rfl, hn, ha, qa⟩ := lstAt_of r qx e
      exact ⟨a, vs, rfl, rfl, ha, h ρ _ (.put hn) (r.put hn ha .nil) _ .non⟩
    · exact h.elim
  · exact h.elim
def fRev (t : T) (ts : List T) (G : GH) : R T := match ts with
  | [] => match lstAt t G with
    | some (n, us) => .ok (.val .non) (G.set n (.lst us.reverse))
    | none => .bad
  | _ => .bad
theorem relWs_rev {K : PySem.W.Frag} {ρ : List Addr} {H : Hp} {vs : List V} {ws : List W} (q : RelWs K ca ρ H vs ws) : RelWs K ca ρ H vs.reverse ws.reverse :=
  relWs_of (by rw [List.length_reverse, List.length_reverse, q.length]) fun i v w e1 e2 => by
    have h1 : i < vs.length := by simpa using (List.getElem?_eq_some_iff.mp e1).1
    rw [List.getElem?_reverse h1] at e1
    rw [List.getElem?_reverse (by rw [← q.length]; exact h1), ← q.length] at e2
    exact paired_get q _ v w e1 e2
theorem says_rev : SaysM X ca rReverse fRev := by
  intro Wx σ ρ G H H0 x t xs ts Q r qx qs h
  unfold fRev at h
  split at h
  · cases qs
    split at h
    · rename_i m us e
      obtain ⟨a, vs, rfl, hn, ha, qa⟩ := lstAt_of r qx e
      exact ⟨a, vs, rfl, rfl, ha, h ρ _ (.put hn) (r.put hn ha (relWs_rev qa)) _ .non⟩
    · exact h.elim
  · exact h.elim
/-! xs[i] = e -/
def sPut (mo mi : M T) (m : M T) : MS := fun τ G => (mF m τ G).toS τ fun w G1 => (mo τ G1).toS τ fun t G2 => (mi τ G2).toS τ fun i G3 => match i, lstAt t G3 with
  | .val (.int k), some (n, us) => match ixN us.length k with
    | some j => .nx τ (G3.set n (.lst (us.set j w)))
    | none => .bad
  | _, _ => .bad
theorem relWs_set {K : PySem.W.Frag} {ρ : List Addr} {H : Hp} {v : V} {w : W} (qv : RelW K ca ρ H v w) : ∀ {vs : List V} {ws : List W} (j : Nat), RelWs K ca ρ H vs ws → RelWs K ca ρ H (vs.set j v) (ws.set j w)
  | _, _, _, .nil => .nil
  | _, _, 0, .cons _ t => .cons qv t
  | _, _, j + 1, .cons q t => .cons q (relWs_set qv j t)
theorem s_put {o i e : Expr} {mo mi m : M T} {spos tpos : Pos} (ho : PE X o (tE X.K ca Wx mo)) (hi : PE X i (tE X.K ca Wx mi)) (he : PE X e (tE X.K ca Wx m))
    (ha : ∀ v, assign (.Subscript o i tpos) X.env v = (do
      let ov ← holding [v] (eval o X.env)
      let iv ← holding [v, ov] (eval i X.env)
      standAt tpos
      holding [v, ov, iv] (setItem ov iv v)
      release [v, ov, iv] []) := by intro _; rfl)
    (hs : swapsWithSole [.Subscript o i tpos] e spos.line X.env = pure false := by rfl) (hw : swappedStores [.Subscript o i tpos] e X.env = pure none := by rfl)
    (h1 : (assignEach [.Subscript o i tpos] X.env).map (·.2) = [assign (.Subscript o i tpos) X.env] := by rfl) :
    PS X (.Assign [.Subscript o i tpos] e spos) (tS X.K ca Wx (sPut mo mi m)) := by
  refine PS.weak (ps_asg he (pg_sub ho hi set_list ha) hs hw h1) fun D σ H ⟨ρ, G, τ, r, s, h⟩ => ?_
  refine tE.seqFS r s h fun w G1 ρ1 H1 v x1 r1 s1 q1 h1 => ?_
  refine tE.seqS r1 s1 h1 fun t G2 ρ2 H2 vo x2 r2 s2 q2 h2 => ?_
  refine tE.seqS r2 s2 h2 fun u G3 ρ3 H3 vi x3 r3 s3 q3 h3 => ?_
  split at h3
  · rename_i k n us e
    split at h3
    · rename_i j ej
      cases q3
      obtain ⟨a, vs, rfl, hn, hl, qa⟩ := lstAt_of r3 (q2.ext r2 x3) e
      have qv := (q1.ext r1 x2).ext r2 x3
      refine ⟨a, vs, k, j, rfl, rfl, hl, by rw [qa.length]; exact ej, ?_⟩
      exact h3 ρ3 _ σ (.put hn) (r3.put hn hl (relWs_set qv j qa)) (s3.ext r3 (.put hn))
    · exact h3.elim
  · exact h3.elim
end
end Sy
set_option Elab.async false
set_option linter.all false
set_option maxRecDepth 100000
set_option maxHeartbeats 4000000
namespace Sy
open PySem PySem.Spec PyProof.Rows L2

section
variable {X : Cx} {ca : Nat → Addr} {Wx : WX} {pos : Pos}
/-! chains -/
def mChain (f g : T → T → GH → R T) (a b c : M T) : M T := fun τ G => (a τ G).bind fun x G1 => (b τ G1).bind fun y G2 => (f x y G2).bind fun z G3 => (asB z G3).bind fun k G4 => if k then (c τ G4).bind fun u G5 => g y u G5 else .ok (.val (.bl false)) G4
theorem chain_in {r r' : R2} {f g : T → T → GH → R T} (hf : Says2 X ca r f) (hg : Says2 X ca r' g) {ma mb mc : M T} {σ : SSt} {H : Hp} {Q : VK} (h : tE X.K ca Wx (mChain f g ma mb mc) σ H Q) : tChain r r' (tE X.K ca Wx ma) (tE X.K ca Wx mb) (tE X.K ca Wx mc) σ H Q := by
  obtain ⟨ρ, G, τ, r0, s0, h⟩ := h
  refine tE.seq r0 s0 h fun t1 G1 ρ1 H1 v1 x1 r1 s1 q1 h1 => ?_
  refine tE.seq r1 s1 h1 fun t2 G2 ρ2 H2 v2 x2 r2 s2 q2 h2 => ?_
  have x12 := x1.trans x2
  refine hf Wx σ ρ2 G2 H2 H v1 v2 t1 t2 _ r2 (q1.ext r1 x2) (q2.back x1 x2) ?_
  refine (Post.bindX h2).imp fun z G3 ρ3 H3 _ r3 ⟨x3, h3⟩ vz qz => ?_
  obtain ⟨k, e, h4⟩ := asB_of qz h3
  refine ⟨k, e, ?_⟩
  have x13 := x12.trans x3
  cases k with
  | false =>
    rw [if_neg Bool.false_ne_true] at h4 ⊢
    exact h4 ρ3 H3 .refl r3 _ (.bl false)
  | true =>
    rw [if_pos rfl] at h4 ⊢
    refine tE.seq r3 (s2.ext r2 x3) h4 fun t4 G4 ρ4 H4 v4 x4 r4 s4 q4 h5 => ?_
    exact hg Wx σ ρ4 G4 H4 H v2 v4 t2 t4 Q r4 (((q2.ext r2 x3).ext r3 x4).back x1 (x2.trans (x3.trans x4))) (q4.back x13 x4) (h5.imp fun t G' ρ' H' x' _ q v rv => q v (rv.back (x13.trans x4) x'))
theorem s_chain {op op' : CmpOp} {a b c : Expr} {r r' : R2} {f g : T → T → GH → R T} {ma mb mc : M T} (ho : OpR X (compareOp op) r) (ho' : OpR X (compareOp op') r') (hf : Says2 X ca r f) (hg : Says2 X ca r' g)
    (ha : PE X a (tE X.K ca Wx ma)) (hb : PE X b (tE X.K ca Wx mb)) (hc : PE X c (tE X.K ca Wx mc)) (hm : lastMarks [op, op'] [b, c] = false := by with_unfolding_all rfl) : PE X (.Compare a [op, op'] [b, c] pos) (tE X.K ca Wx (mChain f g ma mb mc)) :=
  PE.weak (pe_chain ho ho' ha hb hc hm) fun _ _ _ h => chain_in hf hg h
theorem s_testChain {op op' : CmpOp} {a b c : Expr} {r r' : R2} {f g : T → T → GH → R T} {ma mb mc : M T} (ho : OpR X (compareOp op) r) (ho' : OpR X (compareOp op') r') (hf : Says2 X ca r f) (hg : Says2 X ca r' g)
    (ha : PE X a (tE X.K ca Wx ma)) (hb : PE X b (tE X.K ca Wx mb)) (hc : PE X c (tE X.K ca Wx mc)) (hm : lastMarks [op, op'] [b, c] = false := by with_unfolding_all rfl) : PT X (.Compare a [op, op'] [b, c] pos) (tT X.K ca Wx (mB (mChain f g ma mb mc))) :=
  PT.weak (pt_chain ho ho' ha hb hc hm) fun _ _ _ h => chain_in hf hg (tTest_of h)
/-! truth -/
def truT (t : T) (G : GH) : R Bool := match t with
  | .tmp ws => .ok (!ws.isEmpty) G
  | .val w => match w with
    | .non => .ok false G
    | .bl b => .ok b G
    | .int i => .ok (i != 0) G
    | .str x => if x.length ≤ 16777216 then .ok ((x.length : Int) != 0) G else .bad
    | .tup ws => .ok (!ws.isEmpty) G
    | .frl ws => .ok (!ws.isEmpty) G
    | .loc n => match G[n]?.bind GO.rd with
      | some ws => .ok (!ws.isEmpty) G
      | none => .bad
    | _ => .bad
def mTru (m : M T) : M Bool := fun τ G => (m τ G).bind truT
theorem isEmpty_rel {K : PySem.W.Frag} {ρ : List Addr} {H : Hp} {vs : List V} {ws : List W} (q : RelWs K ca ρ H vs ws) : vs.isEmpty = ws.isEmpty := by
  cases q <;> rfl
theorem s_truth {e : Expr} {m : M T} (h : PE X e (tE X.K ca Wx m)) (he : ∀ whole, isTrue e X.env whole = (do let v ← whole; standAt e.pos; holding [v] (truthy v)) := by intro _; rfl) : PT X e (tT X.K ca Wx (mTru m)) := by
  refine PT.weak (pt_truth h he) fun σ H Q ⟨ρ, G, τ, r0, s0, h⟩ => ?_
  refine tE.seq r0 s0 h fun t G1 ρ1 H1 v x1 r1 s1 q1 h1 => ?_
  cases t with
  | tmp ws =>
    obtain ⟨p, vs, rfl, hn, h0, hp, qs⟩ := q1
    exact ⟨_, .inl ⟨vs, .of hp, rfl⟩, by rw [isEmpty_rel qs]; exact h1 ρ1 H1 .refl r1⟩
  | val w =>
    cases w with
    | non => cases q1; exact ⟨false, rfl, h1 ρ1 H1 .refl r1⟩
    | bl b => cases q1; exact ⟨b, rfl, h1 ρ1 H1 .refl r1⟩
    | int b => cases q1; exact ⟨_, rfl, h1 ρ1 H1 .refl r1⟩
    | str x =>
      cases q1
      have h1 : Post X.K ca Wx σ ρ1 H1 (fun b _ _ H' => Q b H') (if x.length ≤ 16777216 then .ok ((x.length : Int) != 0) G1 else .bad) := h1
      split at h1
      · rename_i z
        exact ⟨_, ⟨by rw [sizeLine_eq]; exact z, rfl⟩, h1 ρ1 H1 .refl r1⟩
      · exact h1.elim
    | tup ws =>
      obtain ⟨a, vs, rfl, hv, qs⟩ := relW_tup q1
      exact ⟨_, .inr (.inl ⟨vs, hv, rfl⟩), by rw [isEmpty_rel qs]; exact h1 ρ1 H1 .refl r1⟩
    | loc n =>
      have h1 : Post X.K ca Wx σ ρ1 H1 (fun b _ _ H' => Q b H') (match rdw G1 (.loc n) with | some ws => .ok (!ws.isEmpty) G1 | none => .bad) := h1
      cases e : rdw G1 (.loc n) with
      | none => rw [e] at h1; exact h1.elim
      | some ws =>
        rw [e] at h1
        obtain ⟨a, vs, rfl, hv, qs⟩ := rdw_of r1 q1 e
        exact ⟨_, .inl ⟨vs, hv, rfl⟩, by rw [isEmpty_rel qs]; exact h1 ρ1 H1 .refl r1⟩
    | frl ws =>
      obtain ⟨a, vs, rfl, hv, qs⟩ := relW_frl q1
      exact ⟨_, .inl ⟨vs, hv.sq, rfl⟩, by rw [isEmpty_rel qs]; exact h1 ρ1 H1 .refl r1⟩
    | ty n => exact h1.elim
    | cls n => exact h1.elim
    | exn n a => exact h1.elim
/-! is -/
def rIsA : R2 := fun x y H Q => (y = .non ∧ Q (.bl (decide (x = .non))) H) ∨ rIsB x y H Q
def rIsNotA : R2 := fun x y H Q => (y = .non ∧ Q (.bl (!decide (x = .non))) H) ∨ rNotB x y H Q
theorem op_isA : OpR X (compareOp .Is) rIsA := op_isN.or op_isBl
theorem op_isNotA : OpR X (compareOp .IsNot) rIsNotA := op_notN.or op_notBl
theorem non_iff {K : PySem.W.Frag} {ρ : List Addr} {H : Hp} {v : V} {w : W} (q : RelW K ca ρ H v w) : decide (v = .non) = isNonW w := by
  cases q <;> simp [isNonW]
theorem says_is : Says2 X ca rIsA fIs := by
  intro Wx σ ρ G H H0 x y s t Q r qx qy hp
  unfold fIs at hp
  split at hp
  · cases qy
    exact .inl ⟨rfl, by rw [non_iff qx]; exact hp ρ H .refl r _ (.bl _)⟩
  · cases qx; cases qy
    exact .inr ⟨_, _, rfl, rfl, hp ρ H .refl r _ (.bl _)⟩
  · exact hp.elim
theorem says_isNot : Says2 X ca rIsNotA fIsNot := by
  intro Wx σ ρ G H H0 x y s t Q r qx qy hp
  unfold fIsNot at hp
  split at hp
  · cases qy
    exact .inl ⟨rfl, by rw [non_iff qx]; exact hp ρ H .refl r _ (.bl _)⟩
  · cases qx; cases qy
    exact .inr ⟨_, _, rfl, rfl, hp ρ H .refl r _ (.bl _)⟩
  · exact hp.elim
/-! minus -/
def fNeg (t : T) (G : GH) : R T := match t with
  | .val (.int i) => .ok (.val (.int (-i))) G
  | _ => .bad
theorem s_neg {a : Expr} {ma : M T} (ha : PE X a (tE X.K ca Wx ma)) : PE X (.UnaryOp .USub a pos) (tE X.K ca Wx (mUn fNeg ma)) := by
  refine PE.weak (pe_un un_neg ha) fun σ H Q ⟨ρ, G, τ, r0, s0, h⟩ => ?_
  refine tE.seq r0 s0 h fun t G1 ρ1 H1 v x1 r1 s1 q1 h1 => ?_
  unfold fNeg at h1
  split at h1
  · cases q1
    exact ⟨_, rfl, h1 ρ1 H1 .refl r1 _ (.int _)⟩
  · exact h1.elim
/-! += -/
def rAugA : R2 := fun x y H Q => rI0 (fun i j => .int (i + j)) x y H Q ∨ (∃ i j, x = .str i ∧ y = .str j ∧ i.length + j.length ≤ sizeLine ∧ Q (.str (i ++ j)) H) ∨ rExt2 x y H Q
theorem aug_add : PIp X .Add rAugA := by
  intro pins s σ H x y v u Q I r1 r2 h
  exact (iop_add.or (iop_add_str.or iop_ext)) pins s σ H x y v u Q I r1 r2 h
theorem aug_I {op : Operator} {r : R2} (h : OpR X (inplaceOp op) r) : PIp X op r := fun pins s σ H x y v u Q I r1 r2 q => h pins s σ H x y v u Q I r1 r2 q
def fAugAdd (s t : T) (G : GH) : R T := match s with
  | .val (.int i) => match t with
    | .val (.int j) => .ok (.val (.int (i + j))) G
    | _ => .bad
  | .val (.str x) => match t with
    | .val (.str y) => if x.length + y.length ≤ 16777216 then .ok (.val (.str (x ++ y))) G else .bad
    | _ => .bad
  | s => match lstAt s G, wrl t G with
    | some (n, us), some ws => if us.length + ws.length ≤ 16777216 then .ok (.val (.loc n)) (G.set n (.lst (us ++ ws))) else .bad
    | _, _ => .bad
theorem says_augAdd : Says2 X ca rAugA fAugAdd := by
  intro Wx σ ρ G H H0 x y s t Q r qx qy hp
  unfold fAugAdd at hp
  split at hp
  · split at hp
    · cases qx; cases qy
      exact .inl ⟨_, _, rfl, rfl, hp ρ H .refl r _ (.int _)⟩
    · exact hp.elim
  · split at hp
    · split at hp
      · rename_i z
        cases qx; cases qy
        exact .inr (.inl ⟨_, _, rfl, rfl, by rw [sizeLine_eq]; exact z, hp ρ H .refl r _ (.str _)⟩)
      · exact hp.elim
    · exact hp.elim
  · split at hp
    · rename_i n us ws e1 e2
      split at hp
      · rename_i z
        obtain ⟨a, vs, rfl, hn, ha, qa⟩ := lstAt_of r qx e1
        obtain ⟨b, vs2, rfl, hb, qb⟩ := wrl_of r qy e2
        exact .inr (.inr ⟨a, b, vs, vs2, rfl, rfl, ha, hb, by rw [sizeLine_eq, qa.length, qb.length]; exact z, hp ρ _ (.put hn) (r.put hn ha (relWs_app qa qb)) _ (.loc hn)⟩)
      · exact hp.elim
    · exact hp.elim
/-! slices -/
def tO (K : PySem.W.Frag) (ca : Nat → Addr) (Wx : WX) (m : M (Option Int)) : TO := fun σ H Q => ∃ ρ G τ, Rep K ca ρ G H ∧ RelS K ca ρ H σ τ ∧ Post K ca Wx σ ρ H (fun o _ _ H' => Q o H') (m τ G)
def mNoP : M (Option Int) := fun _ G => .ok none G
def mP (m : M T) : M (Option Int) := fun τ G => (m τ G).bind fun t G1 => match t with
  | .val (.int i) => .ok (some i) G1
  | _ => .bad
theorem PO.weak {X : Cx} {e : Option Expr} {t t' : TO} (h : PO X e t) (f : ∀ σ H Q, t' σ H Q → t σ H Q) : PO X e t' := ⟨fun pins s σ H Q I q => h.run pins s σ H Q I (f σ H Q q)⟩
theorem o_none : PO X none (tO X.K ca Wx mNoP) := PO.weak po_none fun σ H Q ⟨ρ, G, τ, r, s, h⟩ => h ρ H .refl r
theorem o_some {e : Expr} {m : M T} (h : PE X e (tE X.K ca Wx m)) : PO X (some e) (tO X.K ca Wx (mP m)) := PO.weak (po_some h) fun σ H Q ⟨ρ, G, τ, r, s, h⟩ => by
  refine tE.seq r s h fun t G1 ρ1 H1 v x1 r1 s1 q1 h1 => ?_
  split at h1
  · cases q1
    exact ⟨_, rfl, h1 ρ1 H1 .refl r1⟩
  · exact h1.elim
def cutW (xs : List W) (lo hi : Option Int) : List W := (xs.drop (HT.sIx xs.length 0 lo)).take (HT.sIx xs.length xs.length hi - HT.sIx xs.length 0 lo)
def fSl (t : T) (lo hi : Option Int) (G : GH) : R T := match t with
  | .val (.str z) => if z.length ≤ 16777216 then .ok (.val (.str (cutS z lo hi))) G else .bad
  | .val (.tup ws) => .ok (.val (.tup (cutW ws lo hi))) G
  | t => match rdl t G with
    | some ws => .ok (.tmp (cutW ws lo hi)) G
    | none => .bad
def mSl (m : M T) (l u : M (Option Int)) : M T := fun τ G => (m τ G).bind fun t G1 => (l τ G1).bind fun lo G2 => (u τ G2).bind fun hi G3 => fSl t lo hi G3
theorem relWs_cut {K : PySem.W.Frag} {ρ : List Addr} {H : Hp} {vs : List V} {ws : List W} (q : RelWs K ca ρ H vs ws) (lo hi : Option Int) : RelWs K ca ρ H (cutV vs lo hi) (cutW ws lo hi) := by
  have hl := q.length
  unfold cutV cutW
  rw [hl]
  refine relWs_of (by simp [hl]) fun i v w e1 e2 => ?_
  rw [List.getElem?_take] at e1 e2
  split at e1
  · rw [if_pos (by assumption)] at e2
    rw [List.getElem?_drop] at e1 e2
    exact paired_get q _ v w e1 e2
  · cases e1
theorem s_sl {e : Expr} {lo hi : Option Expr} {p2 : Pos} {m : M T} {l u : M (Option Int)} (he : PE X e (tE X.K ca Wx m)) (hl : PO X lo (tO X.K ca Wx l)) (hu : PO X hi (tO X.K ca Wx u)) : PE X (.Subscript e (.Slice lo hi none p2) pos) (tE X.K ca Wx (mSl m l u)) := by
  refine PE.weak (pe_slice (sl_list.or (sl_tupA.or sl_str)) he hl hu) fun σ H Q ⟨ρ, G, τ, r, s, h⟩ => ?_
  refine tE.seq r s h fun t G1 ρ1 H1 v x1 r1 s1 q1 h1 => ?_
  refine ⟨ρ1, G1, τ, r1, s1, (Post.bindX h1).imp fun lo G2 ρ2 H2 _ r2 ⟨x2, h2⟩ => ?_⟩
  have s2 := s1.ext r1 x2
  refine ⟨ρ2, G2, τ, r2, s2, (Post.bindX h2).imp fun hi G3 ρ3 H3 _ r3 ⟨x3, h3⟩ => ?_⟩
  have q3 := (q1.ext r1 x2).ext r2 x3
  unfold fSl at h3
  split at h3
  · cases q3
    split at h3
    · rename_i z
      exact .inr (.inr ⟨_, rfl, by rw [sizeLine_eq]; exact z, h3 ρ3 H3 .refl r3 _ (.str _)⟩)
    · exact h3.elim
  · have q3' := q3
    obtain ⟨a, vs, rfl, hv, qs⟩ := relW_tup q3
    refine .inr (.inl ⟨a, vs, rfl, hv, fun hw => ?_, fun _ p hp => h3 ρ3 _ (.laid hp) (r3.laid hp) _ (RelW.tup' (.of upd_same) (relWs_ext (relWs_cut qs lo hi) r3 (.laid hp)))⟩)
    rw [qs.length] at hw
    have e : ∀ ws : List W, HT.sIx ws.length 0 lo = 0 ∧ HT.sIx ws.length ws.length hi = ws.length → cutW ws lo hi = ws := fun ws hw => by
      unfold cutW
      rw [hw.1, hw.2, List.drop_zero, Nat.sub_zero, List.take_length]
    rw [e _ hw] at h3
    exact h3 ρ3 H3 .refl r3 _ q3'
  · cases e : rdl t G3 with
    | none => rw [e] at h3; exact h3.elim
    | some ws =>
      rw [e] at h3
      obtain ⟨a, vs, rfl, hv, qs⟩ := rdl_of r3 q3 e
      refine .inl ⟨a, vs, rfl, hv, fun p hp => h3 ρ3 _ (.laid hp) (r3.laid hp) _ ?_⟩
      exact (fresh_tmp r3 hp (relWs_cut qs lo hi)).back (x1.trans (x2.trans x3)) (.laid hp)
/-! constants of the module -/
structure KonW (K : PySem.W.Frag) (mg : Str → Option Value) (ca : Nat → Addr) (x : Str) (w : W) : Prop where
  ex : ∃ (u : Value) (v : V), mg x = some u ∧ RelV v u ∧ ∀ ρ H, RelW K ca ρ H v w
theorem s_glob {x : Str} {w : W} (hg : Gl X x) (k : KonW X.K X.mg ca x w) (hd : (x == ("__debug__" : Str)) = false := by decide) : PE X (.Name x pos) (tE X.K ca Wx (mC w)) := by
  obtain ⟨u, v, hm, rv, hw⟩ := k.ex
  exact s_const (pe_glob hg hm rv hd) hw
theorem hu_five {k : Nat} {A : Around} (hr : Room k A) : A.units + 65 < cLine := by have := hr.un; omega
end
/-! defs with defaults -/
section
variable {P : Program} {w : World} {K : PySem.W.Frag} {mg : Str → Option Value} {base : Heap} {ca : Nat → Addr}
theorem def_okD {x qual : Str} {params : Arguments} {body : List Stmt} {scope : Scope} {dvs : List V} {kws : List (Str × V)} {f : Addr} {fd : FuncData} {N ps : List Str} {k : Nat} {mb : MS} (F : FunD K x qual params body scope dvs kws f fd) (S : FnScope N ps scope)
    (hb : ∀ (cdv : Value) (A : Around) (outer : List Env) (s : Shared) (H : Hp) (E : XK), Room k (A.deeper (envOfC qual scope s.heap.objs.size f cdv)) →
      PSs (cxOf (L2N.CX P w) P w K mg base N qual scope f cdv A outer s H E) body (tS K ca (fun c d _ H => E c d H) mb)) :
    FnOk P w K mg base (L2N.CX P w) (k + 1) f fd ps (spM K ca ps.length (mDef N.length mb)) := by
  refine F.ok S (fun vs H Q E h => h.1) fun cdv A outer s H vs Q E hr h => ?_
  obtain ⟨hl, ρ, G, ws, r, q, h⟩ := h
  refine ⟨_, hb cdv A outer s H E hr, ρ, G, _, r, relS_start q, ?_⟩
  unfold mDef at h
  cases e : mb (ws.map some ++ List.replicate (N.length - ws.length) none) G with
  | nx τ G' => rw [e] at h; exact fun ρ' H' σ' x r' s' => h ρ' H' x r' .non .non
  | rt w G' => rw [e] at h; exact fun ρ' H' v x r' q' => h ρ' H' x r' v q'
  | ex c fs τ G' => rw [e] at h; exact fun ρ' H' d σ' x r' s' ef => h ρ' H' d x r' ef
  | bk τ G' => rw [e] at h; exact h.elim
  | ct τ G' => rw [e] at h; exact h.elim
  | bad => rw [e] at h; exact h.elim
end
/-! names of the built-ins -/
theorem bt_len : bootBuiltins "len" = some (.builtin "len") := by decide +kernel
theorem bt_all : bootBuiltins "all" = some (.builtin "all") := by decide +kernel
theorem bt_any : bootBuiltins "any" = some (.builtin "any") := by decide +kernel
theorem bt_sum : bootBuiltins "sum" = some (.builtin "sum") := by decide +kernel
theorem bt_divmod : bootBuiltins "divmod" = some (.builtin "divmod") := by decide +kernel
theorem bt_isinstance : bootBuiltins "isinstance" = some (.builtin "isinstance") := by decide +kernel
theorem bt_int : bootBuiltins "int" = some (.type "int") := by decide +kernel
theorem bt_bool : bootBuiltins "bool" = some (.type "bool") := by decide +kernel
theorem bt_str : bootBuiltins "str" = some (.type "str") := by decide +kernel
theorem bt_list : bootBuiltins "list" = some (.type "list") := by decide +kernel
theorem bt_tuple : bootBuiltins "tuple" = some (.type "tuple") := by decide +kernel
theorem bt_dict : bootBuiltins "dict" = some (.type "dict") := by decide +kernel
end Sy
set_option Elab.async false
set_option linter.all false
set_option maxRecDepth 100000
set_option maxHeartbeats 4000000
namespace Sy
open PySem PySem.Spec PyProof.Rows L2

/-! own exception classes: numbers c, their classes at ca c -/
inductive CK where
  | own (j : Nat) | ty (n : String)
deriving DecidableEq
def ckW : W → Option CK
  | .cls j => some (.own j)
  | .ty n => some (.ty n)
  | _ => none
def CK.val (ca : Nat → Addr) : CK → Value
  | .own j => .ref (ca j)
  | .ty n => .type n
abbrev ITab := List (Nat × CK × Bool)
abbrev XTab := List (Nat × Nat × Bool)
def isub (tab : ITab) (c : Nat) (k : CK) : Option Bool := (tab.find? fun e => decide (e.1 = c) && decide (e.2.1 = k)).map fun e => e.2.2
def xsub (tab : XTab) (c j : Nat) : Option Bool := (tab.find? fun e => decide (e.1 = c) && decide (e.2.1 = j)).map fun e => e.2.2
/-- a class that may be raised -/
structure ExW (K : PySem.W.Frag) (mg : Str → Option Value) (ca : Nat → Addr) (x : Str) (c : Nat) : Prop where
  gC : mg x = some (.ref (ca c))
  q : PySem.W.excIn K (ca c) He.veBase "ValueError.__new__" = true
  kC : PySem.W.keepIn K (.ref (ca c)) = true
  s : PySem.W.subIn K (.ref (ca c)) (.type "BaseException") = some true
  t : PySem.W.typeIn K (.ref (ca c)) = some (.type "type")
structure Exs (K : PySem.W.Frag) (ca : Nat → Addr) (it : ITab) (xt : XTab) : Prop where
  isi : ∀ e ∈ it, PySem.W.kitOne K (.ref (ca e.1)) (e.2.1.val ca) = some e.2.2 ∧ ExcC K (ca e.1)
  exm : ∀ e ∈ xt, PySem.W.exmOne K (.ref (ca e.1)) (.ref (ca e.2.1)) = some e.2.2
theorem isub_mem {tab : ITab} {c : Nat} {k : CK} {b : Bool} (h : isub tab c k = some b) : (c, k, b) ∈ tab := by
  unfold isub at h
  cases e : tab.find? fun e => decide (e.1 = c) && decide (e.2.1 = k) with
  | none => rw [e] at h; cases h
  | some x =>
    rw [e] at h
    cases h
    have h1 := List.mem_of_find?_eq_some e
    have h2 := List.find?_some e
    rw [Bool.and_eq_true] at h2
    have h3 := of_decide_eq_true h2.1
    have h4 := of_decide_eq_true h2.2
    obtain ⟨a, b, c⟩ := x
    dsimp only at h3 h4
    subst h3; subst h4
    exact h1
theorem xsub_mem {tab : XTab} {c k : Nat} {b : Bool} (h : xsub tab c k = some b) : (c, k, b) ∈ tab := by
  unfold xsub at h
  cases e : tab.find? fun e => decide (e.1 = c) && decide (e.2.1 = k) with
  | none => rw [e] at h; cases h
  | some x =>
    rw [e] at h
    cases h
    have h1 := List.mem_of_find?_eq_some e
    have h2 := List.find?_some e
    rw [Bool.and_eq_true] at h2
    have h3 := of_decide_eq_true h2.1
    have h4 := of_decide_eq_true h2.2
    obtain ⟨a, b, c⟩ := x
    dsimp only at h3 h4
    subst h3; subst h4
    exact h1

/-! raise -/
def sRaise (c : Nat) : MS := fun τ G => .ex c [] τ G
section
variable {X : Cx} {ca : Nat → Addr} {Wx : WX} {pos : Pos}
theorem s_raise {x m : Str} {j c : Nat} {p p2 p3 : Pos} (hc : X.calm = true) (tk : L2N.Takes X Wx) (E : ExW X.K X.mg ca x c) (hg : Gl X x) (hdb : (x == ("__debug__" : Str)) = false := by decide) :
    PS X (.Raise (some (.Call (.Name x p) [.Constant (.str m) j p2] [] p3)) none pos) (tS X.K ca Wx (sRaise c)) := by
  refine PS.weak (L2N.ps_raise hc tk (L2N.pmk_own PySem.F.excBase_ValueError E.q E.gC E.kC (raises_own E.s E.t) hg hdb)) fun D σ H ⟨ρ, G, τ, r, s, h⟩ => ?_
  exact h ρ H none σ .refl r s rfl
/-! isinstance of the error that a suite, or a def called there, holds -/
/-- the context holds the error at a, of the class c -/
def Has (X : Cx) (ca : Nat → Addr) (c : Nat) (a : Addr) : Prop := X.A.handled = some (.ref a) ∧ ∃ oe : Obj, (a, oe) ∈ X.pn ∧ Zc (.ref (ca c)) none oe ∧ ∃ vs : Array Value, oe.data = .fields vs ∧ vs[2]? = some .none
open Classical in
noncomputable def fIsE (it : ITab) (c : Nat) (a : Addr) (ts : List T) (G : GH) : R T := match ts with
  | [.val (.exn c' a'), .val k] => if c' = c ∧ a' = a then match (ckW k).bind (isub it c) with
      | some b => .ok (.val (.bl b)) G
      | none => .bad
    else .bad
  | _ => .bad
theorem ck_rel {K : PySem.W.Frag} {ρ : List Addr} {H : Hp} {w : W} {k : CK} {v : V} (h : ckW w = some k) (q : RelW K ca ρ H v w) : ∀ u, RelV v u → u = k.val ca := by
  cases w with
  | cls j => cases h; cases q; intro u r; exact r
  | ty n => cases h; cases q; intro u r; exact r
  | _ => cases h
theorem call_isX {c : Nat} {a : Addr} (C : ExcC X.K (ca c)) (hz : Has X ca c a) : CallR X (.builtin "isinstance") (rIsE X.K (ca c) a) := by
  intro pins s σ H xs us Q I r h
  obtain ⟨v, cv, b, rfl, hcv, e, q⟩ := h
  obtain ⟨_, oe, hm, hz, vs, hf, _⟩ := hz
  obtain ⟨u1, u2, rfl, r1, r2⟩ := vals2 r
  cases (show u1 = Value.ref a from r1)
  cases hcv _ r2
  have J : PySem.W.InstAt s.heap a oe (ca c) none := by
    have g := (I.pin (a, oe) (List.mem_append.mpr (.inl hm))).1
    obtain ⟨oc, od, oda, osl⟩ := oe
    obtain ⟨z1, z2⟩ := hz
    dsimp only at z1 z2 hf
    subst z1; subst z2; subst hf
    exact ⟨g, rfl, rfl, trivial⟩
  exact PySem.W.kia_one (PySem.W.handS_kitx_exc C.hg C.hk C.hs C.hd C.ha C.hn C.ht C.hm) I.kIn J e (fun z => nomatch z) fun tk => ⟨.bl b, H, I.kept (t' := tk) fun _ _ z => z, rfl, q⟩
theorem says_isE {it : ITab} {xt : XTab} {c : Nat} {a : Addr} (E : Exs X.K ca it xt) : SaysC X ca (fun xs H Q => ExcC X.K (ca c) ∧ rIsE X.K (ca c) a xs H Q) (fIsE it c a) := by
  intro Wx σ ρ G H H0 xs ts Q r q h
  unfold fIsE at h
  split at h
  · rename_i c' a' k
    split at h
    · rename_i z
      obtain ⟨rfl, rfl⟩ := z
      obtain ⟨v, u, rfl, qv, qu⟩ := relTs_two q
      cases qv
      cases e : ckW k with
      | none => rw [e] at h; exact h.elim
      | some ck =>
        rw [e] at h
        cases e2 : isub it c' ck with
        | none => rw [Option.bind_some, e2] at h; exact h.elim
        | some b =>
          rw [Option.bind_some, e2] at h
          obtain ⟨k1, k2⟩ := E.isi _ (isub_mem e2)
          exact ⟨k2, u, _, b, rfl, ck_rel e qu, k1, h ρ H .refl r _ (.bl _)⟩
    · exact h.elim
  · exact h.elim
theorem call_isX' {c : Nat} {a : Addr} (hz : Has X ca c a) : CallR X (.builtin "isinstance") (fun xs H Q => ExcC X.K (ca c) ∧ rIsE X.K (ca c) a xs H Q) :=
  fun pins s σ H xs us Q I r h => call_isX h.1 hz pins s σ H xs us Q I r h.2

/-! try .. except x as n -/
/-- an outcome that is the same whatever address the error has -/
noncomputable def pick (f : Addr → RS) : RS := open Classical in if h : ∃ r, ∀ a, f a = r then choose h else .bad
theorem pick_eq {f : Addr → RS} {r : RS} (h : ∀ a, f a = r) : pick f = r := by
  unfold pick
  have e : ∃ r, ∀ a, f a = r := ⟨r, h⟩
  rw [dif_pos e]
  exact (Classical.choose_spec e 0).symm.trans (h 0)
theorem pick_at {f : Addr → RS} (h : pick f ≠ .bad) (a : Addr) : f a = pick f := by
  unfold pick at h ⊢
  split at h
  · rename_i e
    rw [dif_pos e]
    exact Classical.choose_spec e a
  · exact absurd rfl h
/-- the name is gone behind the suite -/
def RS.unS (i : Nat) : RS → RS
  | .nx τ G => .nx (τ.set i none) G
  | .bk τ G => .bk (τ.set i none) G
  | .ct τ G => .ct (τ.set i none) G
  | .rt w G => .rt w G
  | _ => .bad
noncomputable def sTry (xt : XTab) (C i : Nat) (mb : MS) (ms : Nat → Addr → MS) : MS := fun τ G => match mb τ G with
  | .ex c fs τ1 G1 => match fs with
    | [] => match xsub xt c C with
      | some true => pick fun a => (ms c a (τ1.set i (some (.exn c a))) G1).unS i
      | some false => .ex c [] τ1 G1
      | none => .bad
    | _ :: _ => .bad
  | r => r
theorem exF_nil {K : PySem.W.Frag} {ρ : List Addr} {H : Hp} {d : Option Addr} (h : ExF K ca ρ H d []) : d = none := by
  cases d with
  | none => rfl
  | some d => exact absurd rfl h.1
def unE (i : Nat) (D : Ends) : Ends := { nx := fun σ' H' => D.nx (σ'.set i none) H', rt := D.rt, bk := fun σ' H' => D.bk (σ'.set i none) H', ct := fun σ' H' => D.ct (σ'.set i none) H' }
theorem unS_post {K : PySem.W.Frag} {i : Nat} {D : Ends} {ρ : List Addr} {H : Hp} {r : RS} (h : PostS K ca Wx D ρ H (r.unS i)) : PostS K ca wF (unE i D) ρ H r := by
  cases r with
  | nx τ G => exact fun ρ' H' σ' x r s => h ρ' H' _ x r (s.unset i)
  | bk τ G => exact fun ρ' H' σ' x r s => h ρ' H' _ x r (s.unset i)
  | ct τ G => exact fun ρ' H' σ' x r s => h ρ' H' _ x r (s.unset i)
  | rt w G => exact h
  | ex c fs τ G => exact h.elim
  | bad => exact h.elim
theorem PSs.any {X : Cx} {ss : List Stmt} {ι : Type} {P : ι → Prop} {t : ι → TS} (h : ∀ c, P c → PSs X ss (t c)) : PSs X ss (fun D σ H => ∃ c, P c ∧ t c D σ H) :=
  ⟨fun pins s σ H D I ⟨c, hc, q⟩ => (h c hc).run pins s σ H D I q⟩
theorem s_try {x n : Str} {C i : Nat} {it : ITab} {xt : XTab} {body suite : List Stmt} {b₀ : Stmt} {np pos' : Pos} {mb : MS} {ms : Nat → Addr → MS} (E : Exs X.K ca it xt) (hs : X.stack = X.env :: X.outer) (hf : X.env.frame = some X.env.locals) (hN : X.N.Nodup) (hi : X.N[i]? = some n)
    (hln : X.env.kindOf n = some .local) (hc : Names X x (.ref (ca C))) (tk : L2N.Takes X Wx)
    (hb : ∀ (W : WX) (pn : List (Addr × Obj)) (xe : Value → Shared → Prop), L2N.Takes (X.tr pn xe) W → PassesOwn (model X.prog X.w) X.A X.env xe → PSs (X.tr pn xe) body (tS X.K ca W mb))
    (hsu : ∀ (c : Nat) (a : Addr) (oe : Obj) (pn : List (Addr × Obj)), Has (X.suite a ((a, oe) :: pn)) ca c a → PSs (X.suite a ((a, oe) :: pn)) (b₀ :: suite) (tS X.K ca wF (ms c a))) :
    PS X (.Try body [.ExceptHandler (some (.Name x np)) (some n) (b₀ :: suite) pos'] [] [] pos) (tS X.K ca Wx (sTry xt C i mb ms)) := by
  refine PS.weak (L2N.ps_try_as (ts := fun a cls d D σ H => ∃ c, (cls = .ref (ca c) ∧ d = none) ∧ tS X.K ca wF (ms c a) D σ H) (tb := fun W => tS X.K ca W mb) hs hf hN hi hln hc tk hb (fun a oe cls d pn hz hfd => ?_)) fun D σ H ⟨ρ, G, τ, r, s, h⟩ => ?_
  · refine PSs.any fun c hcd => ?_
    obtain ⟨rfl, rfl⟩ := hcd
    obtain ⟨vs, hf⟩ := hfd
    exact hsu c a oe pn ⟨rfl, oe, List.mem_cons_self, hz.zc, vs, hf, hz.2.2 vs hf⟩
  · refine ⟨ρ, G, τ, r, s, ?_⟩
    unfold sTry at h
    cases e : mb τ G with
    | nx τ1 G1 => rw [e] at h; exact h
    | rt w G1 => rw [e] at h; exact h
    | bk τ1 G1 => rw [e] at h; exact h
    | ct τ1 G1 => rw [e] at h; exact h
    | bad => rw [e] at h; exact h
    | ex c fs τ1 G1 =>
      rw [e] at h
      cases fs with
      | cons f fs => exact h.elim
      | nil =>
        dsimp only at h
        cases e2 : xsub xt c C with
        | none => rw [e2] at h; exact h.elim
        | some b =>
          rw [e2] at h
          have k := E.exm _ (xsub_mem e2)
          intro ρ1 H1 d σ1 x1 r1 s1 ef
          have hd := exF_nil ef
          subst hd
          cases b with
          | false => exact ⟨false, k, fun z => Bool.noConfusion z, fun _ => h ρ1 H1 none σ1 x1 r1 s1 ef⟩
          | true =>
            refine ⟨true, k, fun _ a ha => ⟨c, ⟨rfl, rfl⟩, ρ1, G1, τ1.set i (some (.exn c a)), r1, s1.set i (.exn c a), ?_⟩, fun z => Bool.noConfusion z⟩
            have h2 : PostS X.K ca Wx D ρ H (pick fun a => (ms c a (τ1.set i (some (.exn c a))) G1).unS i) := h
            have nb : (pick fun a => (ms c a (τ1.set i (some (.exn c a))) G1).unS i) ≠ .bad := fun z => by rw [z] at h2; exact h2
            rw [← pick_at nb a] at h2
            exact PostS.later (unS_post h2) x1

/-! {} -/
theorem Rep.takeO {K : PySem.W.Frag} {ρ : List Addr} {G : GH} {H : Hp} (r : Rep K ca ρ G H) {p : Addr} {o : GO} (hn : p ∉ ρ) (ho : ObjR K ca ρ H p o) : Rep K ca (ρ ++ [p]) (G ++ [o]) H := by
  have pre : ∀ (n : Nat) a, ρ[n]? = some a → (ρ ++ [p])[n]? = some a := fun n a e => by
    rw [List.getElem?_append_left (List.getElem?_eq_some_iff.mp e).1]; exact e
  refine ⟨by simp [r.len], ?_, fun n a u e1 e2 => ?_⟩
  · rw [List.nodup_append]
    refine ⟨r.nd, by simp, fun a ha b hb e => ?_⟩
    have : b = p := by simpa using hb
    exact hn (by rw [← this, ← e]; exact ha)
  · by_cases hl : n < ρ.length
    · rw [List.getElem?_append_left hl] at e1
      rw [List.getElem?_append_left (by rw [← r.len]; exact hl)] at e2
      exact objR_mono (r.obj n a u e1 e2) pre Stay.refl rfl
    · have hl2 : ρ.length ≤ n := Nat.le_of_not_lt hl
      rw [List.getElem?_append_right hl2] at e1
      rw [List.getElem?_append_right (by rw [← r.len]; exact hl2), ← r.len] at e2
      cases h0 : n - ρ.length with
      | zero =>
        rw [h0] at e1 e2
        simp at e1 e2
        subst e1; subst e2
        exact objR_mono ho pre Stay.refl rfl
      | succ k =>
        rw [h0] at e1
        simp at e1
def mDict0 : M T := fun _ G => .ok (.val (.loc G.length)) (G ++ [.dK []])
theorem s_dict0 : PE X (.Dict [] [] pos) (tE X.K ca Wx mDict0) := by
  refine PE.weak pe_dnewK fun σ H Q ⟨ρ, G, τ, r, s, h⟩ => ?_
  intro p hp
  have r1 : Rep X.K ca ρ G (upd H p (.dK [])) := r.laid hp
  refine h (ρ ++ [p]) (upd H p (.dK [])) ((Ext.laid hp).take hp) (r1.takeO (r.fresh hp) ⟨[], upd_same, .nil⟩) (.ref p) (.loc ?_)
  rw [← r.len]
  simp
/-! a class of the module as a value -/
theorem konW_cls {K : PySem.W.Frag} {mg : Str → Option Value} {x : Str} {c : Nat} (h : mg x = some (.ref (ca c))) : KonW K mg ca x (.cls c) := ⟨_, .ref (ca c), h, rfl, fun _ _ => .cls c⟩
/-! more built-ins -/
def fMin (ts : List T) (G : GH) : R T := match ts with
  | [.val (.int i), .val (.int j)] => .ok (.val (.int (if j < i then j else i))) G
  | _ => .bad
def fMax (ts : List T) (G : GH) : R T := match ts with
  | [.val (.int i), .val (.int j)] => .ok (.val (.int (if j > i then j else i))) G
  | _ => .bad
def fAbs (ts : List T) (G : GH) : R T := match ts with
  | [.val (.int i)] => .ok (.val (.int (if i < 0 then -i else i))) G
  | _ => .bad
def fStr (ts : List T) (G : GH) : R T := match ts with
  | [.val (.int i)] => if i.natAbs.log2 < 1920 then .ok (.val (.str (toString i))) G else .bad
  | _ => .bad
theorem says_min : SaysC X ca (fun xs H Q => ∃ i j, xs = [.int i, .int j] ∧ Q (.int (if j < i then j else i)) H) fMin := by
  intro Wx σ ρ G H H0 xs ts Q r q h
  unfold fMin at h
  split at h
  · obtain ⟨v, u, rfl, qv, qu⟩ := relTs_two q
    cases qv; cases qu
    exact ⟨_, _, rfl, h ρ H .refl r _ (.int _)⟩
  · exact h.elim
theorem says_max : SaysC X ca (fun xs H Q => ∃ i j, xs = [.int i, .int j] ∧ Q (.int (if j > i then j else i)) H) fMax := by
  intro Wx σ ρ G H H0 xs ts Q r q h
  unfold fMax at h
  split at h
  · obtain ⟨v, u, rfl, qv, qu⟩ := relTs_two q
    cases qv; cases qu
    exact ⟨_, _, rfl, h ρ H .refl r _ (.int _)⟩
  · exact h.elim
theorem says_abs : SaysC X ca (fun xs H Q => ∃ i, xs = [.int i] ∧ Q (.int (if i < 0 then -i else i)) H) fAbs := by
  intro Wx σ ρ G H H0 xs ts Q r q h
  unfold fAbs at h
  split at h
  · obtain ⟨v, rfl, qv⟩ := relTs_one q
    cases qv
    exact ⟨_, rfl, h ρ H .refl r _ (.int _)⟩
  · exact h.elim
theorem says_strI : SaysC X ca (fun xs H Q => ∃ i, xs = [.int i] ∧ i.natAbs.log2 < 1920 ∧ Q (.str (toString i)) H) fStr := by
  intro Wx σ ρ G H H0 xs ts Q r q h
  unfold fStr at h
  split at h
  · obtain ⟨v, rfl, qv⟩ := relTs_one q
    cases qv
    split at h
    · rename_i z
      exact ⟨_, rfl, z, h ρ H .refl r _ (.str _)⟩
    · exact h.elim
  · exact h.elim
theorem bt_min : bootBuiltins "min" = some (.builtin "min") := by decide +kernel
theorem bt_max : bootBuiltins "max" = some (.builtin "max") := by decide +kernel
theorem bt_abs : bootBuiltins "abs" = some (.builtin "abs") := by decide +kernel
theorem bt_ValueError : bootBuiltins "ValueError" = some (.type "ValueError") := by decide +kernel
end
end Sy
set_option Elab.async false
set_option linter.all false
set_option maxRecDepth 100000
set_option maxHeartbeats 4000000
namespace Sy
open PySem PySem.Spec PyProof.Rows L2
theorem takesN {X : Cx} : L2N.Takes X wF := fun u s' h => by
  obtain ⟨_, _, _, _, _, _, _, _, _, _, _, _, _, _, _, _, w⟩ := h
  exact w.elim
/-! defs that are called where an error is handled, and are handed it -/
structure FnX (P : Program) (w : World) (K : PySem.W.Frag) (mg : Str → Option Value) (base : Heap) (ca : Nat → Addr) (k : Nat) (f : Addr) (fd : FuncData) (ps : List Str) (sp : Nat → Addr → Sp) : Prop where
  ln : ∀ c a vs H Q E, sp c a vs H Q E → vs.length = ps.length
  go : ∀ (A : Around) (out : List Env) (s : Shared) (H : Hp) (us : List Value) (vs : List V) (Q : VK) (E : XK) (p : Addr × Obj) (c : Nat), L2H.RoomH k A → L2H.Hot1 A p → L2H.PinOk out H s p → Zc (.ref (ca c)) none p.2 →
    Env0 P w K mg base A out s H → BindsTo s fd ⟨us, []⟩ (ps.zip us) → Vals vs us → sp c p.1 vs H Q E → codeAny (model P w) A (.call (.ref f) ⟨us, []⟩) (CR (L2N.CX P w) out P w H s Q E) s
section
variable {P : Program} {w : World} {K : PySem.W.Frag} {mg : Str → Option Value} {base : Heap} {ca : Nat → Addr}
theorem fnX_of {x qual : Str} {params : Arguments} {body : List Stmt} {scope : Scope} {f : Addr} {fd : FuncData} {N ps : List Str} {k : Nat} {sp : Nat → Addr → Sp} (F : FunD K x qual params body scope [] [] f fd) (S : FnScope N ps scope)
    (ln : ∀ c a vs H Q E, sp c a vs H Q E → vs.length = ps.length)
    (hb : ∀ (cdv : Value) (A : Around) (out : List Env) (s : Shared) (H : Hp) (vs : List V) (Q : VK) (E : XK) (p : Addr × Obj) (c : Nat), L2H.Hot1 A p → Zc (.ref (ca c)) none p.2 → L2H.RoomH k (A.deeper (envOfC qual scope s.heap.objs.size f cdv)) → sp c p.1 vs H Q E →
      ∃ t, PSs (L2H.cxH (L2N.CX P w) P w K mg base N qual scope f cdv A out s H E p) body t ∧ t { nx := fun _ H2 => Q .non H2, rt := Q } (L2.start N vs) H) :
    FnX P w K mg base ca (k + 1) f fd ps sp := by
  obtain ⟨oc, od, dV, kV, doc, pm, an, cdv, ct, osl, rfl, lk, cd, _, _⟩ := F.ex
  refine ⟨ln, fun A out s H us vs Q E p c rm hot pin zc env bd rel sat => ?_⟩
  have hlen := ln _ _ _ _ _ _ sat
  have stay : ∀ b o, base.get? b = some o → s.heap.get? b = some o := fun b o z => (env.bs b o z).1
  have inK : K.In s.heap := env.mod.kin.keeps stay
  have nolim : s.heap.NoLimit := env.mod.nolimit.keeps stay
  have kinds : ∀ y ∈ ps.zip us, scope.names.lookup y.1 = some .local ∨ (scope.names.lookup y.1 = some .cell ∧ ((cellsFrom (s.heap.objs.size + 1) scope.names []).lookup y.1).isSome = true) := by
    rintro ⟨n, u⟩ hy
    rcases S.par n (List.of_mem_zip hy).1 with z | z
    · exact .inl z
    · exact .inr ⟨z, PySem.W.cellsFrom_some _ _ _ (.inl z)⟩
  refine codeAny_call_function rm.depth (inK _ _ lk) rfl S.co S.gen rfl (PySem.W.codeRec_of inK cd) (bd _ _ _ _ ?_)
  refine wpAny_newFunctionEnv_cells S.kind kinds fun env2 he s1 ic => ?_
  subst he
  refine ⟨nolim.keeps ic.toInCall.keep, codeAny_func ?_⟩
  obtain ⟨t, ht, hq⟩ := hb cdv A out s H vs Q E p c hot zc (rm.deeper _) sat
  have inv : Inv (L2H.cxH (L2N.CX P w) P w K mg base N qual scope f cdv A out s H E p) [] (L2.start N vs) H s1 := L2H.inv_startH S pin env hlen rel ic
  refine wpAny_mono (ht.run [] s1 (L2.start N vs) H _ inv hq) (fun fl s2 z => ?_) fun _ _ z => z
  have done : ∀ {σ2 : SSt} {H2 : Hp} {v : V} {u : Value}, Inv (L2H.cxH (L2N.CX P w) P w K mg base N qual scope f cdv A out s H E p) [] σ2 H2 s2 → RelV v u → Q v H2 → CE out P w H s Q u s2 := by
    intro σ2 H2 v u J rv q
    exact ⟨v, H2, J.os, J.bare, J.base, J.hok, rv, q⟩
  cases fl with
  | next => obtain ⟨σ2, H2, J, q⟩ := z; exact done (v := V.non) (u := Value.none) J rfl q
  | ret u => obtain ⟨v, σ2, H2, J, rv, q⟩ := z; exact done J rv q
  | cont => obtain ⟨_, _, _, q⟩ := z; exact q.elim
  | brk => obtain ⟨_, _, _, q⟩ := z; exact q.elim
theorem has_hot {X : Cx} {p : Addr × Obj} {c : Nat} {A : Around} (h : L2H.Hot1 A p) (hA : X.A.handled = A.handled) (hp : p ∈ X.pn) (hz : Zc (.ref (ca c)) none p.2) : Has X ca c p.1 := by
  obtain ⟨h1, vs, h2, h3⟩ := h
  exact ⟨hA.trans h1, p.2, hp, hz, vs, h2, h3⟩
/-- a def, handed the error, that does what m does -/
theorem def_okX {x qual : Str} {params : Arguments} {body : List Stmt} {scope : Scope} {f : Addr} {fd : FuncData} {N ps : List Str} {k : Nat} {mb : Nat → Addr → MS} (F : FunD K x qual params body scope [] [] f fd) (S : FnScope N ps scope)
    (hb : ∀ (cdv : Value) (A : Around) (out : List Env) (s : Shared) (H : Hp) (E : XK) (p : Addr × Obj) (c : Nat), L2H.RoomH k (A.deeper (envOfC qual scope s.heap.objs.size f cdv)) → Has (L2H.cxH (L2N.CX P w) P w K mg base N qual scope f cdv A out s H E p) ca c p.1 →
      PSs (L2H.cxH (L2N.CX P w) P w K mg base N qual scope f cdv A out s H E p) body (tS K ca (fun c d _ H => E c d H) (mb c p.1))) :
    FnX P w K mg base ca (k + 1) f fd ps (fun c a => spM K ca ps.length (mDef N.length (mb c a))) := by
  refine fnX_of F S (fun c a vs H Q E h => h.1) fun cdv A out s H vs Q E p c hot zc hr h => ?_
  obtain ⟨hl, ρ, G, ws, r, q, h⟩ := h
  refine ⟨_, hb cdv A out s H E p c hr (has_hot hot rfl List.mem_cons_self zc), ρ, G, _, r, relS_start q, ?_⟩
  unfold mDef at h
  cases e : mb c p.1 (ws.map some ++ List.replicate (N.length - ws.length) none) G with
  | nx τ G' => rw [e] at h; exact fun ρ' H' σ' x r' s' => h ρ' H' x r' .non .non
  | rt w G' => rw [e] at h; exact fun ρ' H' v x r' q' => h ρ' H' x r' v q'
  | ex c fs τ G' => rw [e] at h; exact fun ρ' H' d σ' x r' s' ef => h ρ' H' d x r' ef
  | bk τ G' => rw [e] at h; exact h.elim
  | ct τ G' => rw [e] at h; exact h.elim
  | bad => rw [e] at h; exact h.elim
structure CallX (P : Program) (w : World) (K : PySem.W.Frag) (mg : Str → Option Value) (base : Heap) (ca : Nat → Addr) (k : Nat) (x : Str) (ps : List Str) (m : Nat → Addr → List W → GH → R W) : Prop where
  ex : ∃ (f : Addr) (fd : FuncData), mg x = some (.ref f) ∧ PySem.W.keepIn K (.ref f) = true ∧ Binds K fd ps [] ∧ FnX P w K mg base ca k f fd ps (fun c a => spM K ca ps.length (m c a))
theorem callX_mk {k : Nat} {x : Str} {ps : List Str} {m : Nat → Addr → List W → GH → R W} {f : Addr} {fd : FuncData} (hm : mg x = some (.ref f)) (kp : PySem.W.keepIn K (.ref f) = true) (b : Binds K fd ps []) (F : FnX P w K mg base ca k f fd ps (fun c a => spM K ca ps.length (m c a))) :
    CallX P w K mg base ca k x ps m := ⟨f, fd, hm, kp, b, F⟩
end
section
variable {X : Cx} {ca : Nat → Addr} {pos : Pos}
theorem run_X {pins : List (Addr × Obj)} {σ : SSt} {H : Hp} {s : Shared} {Q : VK} {us : List Value} {vs : List V} {k : Nat} {f : Addr} {fd : FuncData} {ps : List Str} {sp : Nat → Addr → Sp} {c : Nat} {a : Addr}
    (F : FnX X.prog X.w X.K X.mg X.base ca k f fd ps sp) (hr : L2H.RoomH k X.A) (hx : Has X ca c a) (hb : Binds X.K fd ps []) (inv : Inv X pins σ H s) (rel : Vals vs us) (h : sp c a vs H Q (WE wF σ)) :
    wpAny (model X.prog X.w) X.A (call (.ref f) us) (EP X pins σ Q) X.xe s := by
  obtain ⟨hh, oe, hm, hz, fs, hf, h2⟩ := hx
  have hlu : us.length = ps.length := rel.length.symm.trans (F.ln _ _ _ _ _ _ h)
  have bd := hb s us inv.kIn (by rw [List.append_nil]; exact hlu)
  rw [List.append_nil] at bd
  have pn := inv.pin (a, oe) (List.mem_append_left _ hm)
  have pok : L2H.PinOk X.stack H s (a, oe) := by
    refine ⟨pn.1, pn.2.1, fun z => ?_, pn.2.2.2.2⟩
    rcases List.mem_cons.mp (inv.stkSub a z) with z | z
    · exact pn.2.2.1 z
    · exact pn.2.2.2.1 z
  refine wpAny_call (codeAny_mono (F.go X.A X.stack s H us vs Q (WE wF σ) (a, oe) c hr ⟨hh, fs, hf, h2⟩ pok hz inv.env0 bd rel h) fun res s2 z => ?_)
  cases res with
  | error e => exact L2N.passAt (W := wF) takesN σ pins H s e s2 inv z
  | ok fl =>
    cases fl with
    | ret u => exact inv.after z
    | next => exact z.elim
    | brk => exact z.elim
    | cont => exact z.elim
theorem s_callX {x : Str} {p : Pos} {k : Nat} {ps : List Str} {m : Nat → Addr → List W → GH → R W} {e : Expr} {es : List Expr} {ma : M (List W)} {c : Nat} {a : Addr} (C : CallX X.prog X.w X.K X.mg X.base ca k x ps m) (hr : L2H.RoomH k X.A) (hx : Has X ca c a) (hg : Gl X x)
    (ha : PA X (e :: es) (tA X.K ca wF ma)) (hn : ∀ ws τ G G1, ma τ G = .ok ws G1 → (ws ++ []).length = ps.length) (hdb : (x == ("__debug__" : Str)) = false := by decide)
    (he : starEach (e :: es) X.env = (false, eval e X.env) :: starEach es X.env := by rfl) (hpl : (backTo pos (starEach es X.env)).any (·.1) = false := by rfl) :
    PE X (.Call (.Name x p) (e :: es) [] pos) (tE X.K ca wF (mCall (m c a) [] ma)) := by
  obtain ⟨f, fd, gm, kp, b, F⟩ := C.ex
  refine ⟨fun pins s σ H Q inv h => ?_⟩
  have h2 := call_in (X := X) (Wx := wF) (dvs := []) (dws := []) (n := ps.length) (m := m c a) (fun _ _ => .nil) hn h
  refine wpAny_Call_Name_kw (ld_glob inv hg gm ?_ hdb)
  refine PySem.W.callWith_K (h₀ := X.base) inv.ok.mod.kin kp (thn (ha.run pos pins s σ H _ inv h2) fun us s1 z => ?_) he hpl
  obtain ⟨vs, H1, inv1, rel, q⟩ := z
  rw [List.append_nil] at q
  exact ⟨inv1.kIn, run_X F hr hx b inv1 rel q⟩
end
theorem roomX {k j : Nat} {A : Around} (r : Room k A) (h : Option Value) (hj : j ≤ k) : L2H.RoomH j (A.mark h) := ⟨(r.mono hj).dp, (r.mono hj).un⟩
theorem hu_hot {k : Nat} {A : Around} (r : L2H.RoomH k A) : A.units + 65 < cLine := by have := r.un; omega
end Sy
set_option Elab.async false
set_option linter.all false
set_option maxRecDepth 100000
set_option maxHeartbeats 4000000
namespace Sy
open PySem PySem.Spec PyProof.Rows L2
section
variable {X : Cx} {ca : Nat → Addr} {Wx : WX} {pos : Pos}
/-! xs[::-1] -/
theorem relWs_back {K : PySem.W.Frag} {ρ : List Addr} {H : Hp} {vs : List V} {ws : List W} (q : RelWs K ca ρ H vs ws) : RelWs K ca ρ H vs.reverse ws.reverse := by
  have hl := q.length
  refine relWs_of (by simp [hl]) fun i v w e1 e2 => ?_
  have h1 : i < vs.length := by simpa using (List.getElem?_eq_some_iff.mp e1).1
  rw [List.getElem?_reverse h1] at e1
  rw [List.getElem?_reverse (by omega)] at e2
  rw [hl] at e1
  exact paired_get q _ v w e1 e2
def fRevL (t : T) (G : GH) : R T := match rdl t G with
  | some ws => .ok (.tmp ws.reverse) G
  | none => .bad
def mRevL (m : M T) : M T := fun τ G => (m τ G).bind fRevL
@[simp] theorem mRevL_at (m : M T) (τ : Sl) (G : GH) : mRevL m τ G = (m τ G).bind fRevL := (rfl)
theorem s_revL {e : Expr} {m : M T} {k : Nat} {p1 p2 p3 : Pos} (he : PE X e (tE X.K ca Wx m)) : PE X (.Subscript e (.Slice none none (some (.UnaryOp .USub (.Constant (.int 1) k p1) p2)) p3) pos) (tE X.K ca Wx (mRevL m)) := by
  refine PE.weak (pe_revL he) fun σ H Q ⟨ρ, G, τ, r0, s0, h⟩ => ?_
  refine tE.seq r0 s0 h fun t G1 ρ1 H1 v x1 r1 s1 q1 h1 => ?_
  unfold fRevL at h1
  cases e0 : rdl t G1 with
  | none => rw [e0] at h1; exact h1.elim
  | some ws =>
    rw [e0] at h1
    obtain ⟨a, vs, rfl, hv, qs⟩ := rdl_of r1 q1 e0
    exact ⟨a, vs, rfl, hv, fun p hp => h1 ρ1 _ (.laid hp) (r1.laid hp) _ ((fresh_tmp r1 hp (relWs_back qs)).back x1 (.laid hp))⟩
/-! texts -/
def strsW : List W → Option (List Str)
  | [] => some []
  | .str x :: ws => (strsW ws).map (x :: ·)
  | _ :: _ => none
theorem strsW_ok {K : PySem.W.Frag} {ρ : List Addr} {H : Hp} : ∀ {vs : List V} {ws : List W} {xs : List Str}, RelWs K ca ρ H vs ws → strsW ws = some xs → vs = xs.map V.str
  | [], _, _, .nil, h => by cases h; rfl
  | v :: vs, w :: ws, xs, .cons q t, h => by
    cases q with
    | str x =>
      unfold strsW at h
      cases e : strsW ws with
      | none => rw [e] at h; cases h
      | some ys =>
        rw [e] at h
        cases h
        rw [strsW_ok t e]
        rfl
    | _ => cases h
/-- sep.join(texts) -/
def fJoin (t : T) (ts : List T) (G : GH) : R T := match t with
  | .val (.str a) => match ts with
    | [u] => match (match rdl u G with
        | some ws => some ws
        | none => rdt u) with
      | some ws => match strsW ws with
        | some ys => if (ys.map (·.length)).sum + ys.length * a.length ≤ 16777216 then .ok (.val (.str (Txt.join a ys))) G else .bad
        | none => .bad
      | none => .bad
    | _ => .bad
  | _ => .bad
theorem says_join : SaysM X ca (fun x xs H Q => ∃ a p, ∃ ys : List Str, x = .str a ∧ xs = [.ref p] ∧ (SqL X.K H p (ys.map V.str) ∨ SqT X.K H p (ys.map V.str)) ∧ (ys.map (·.length)).sum + ys.length * a.length ≤ 16777216 ∧ Q (.str (Txt.join a ys)) H) fJoin := by
  intro Wx σ ρ G H H0 x t xs ts Q r qx qs h
  unfold fJoin at h
  split at h
  · cases qx
    rename_i a
    split at h
    · rename_i u
      obtain ⟨v, rfl, qv⟩ := relTs_one qs
      split at h
      · rename_i ws e
        split at h
        · rename_i ys e2
          split at h
          · rename_i z
            have fin : ∀ p, (SqL X.K H p (ys.map V.str) ∨ SqT X.K H p (ys.map V.str)) → ∃ a' p', ∃ ys' : List Str, V.str a = .str a' ∧ [V.ref p] = [.ref p'] ∧ (SqL X.K H p' (ys'.map V.str) ∨ SqT X.K H p' (ys'.map V.str)) ∧ (ys'.map (·.length)).sum + ys'.length * a'.length ≤ 16777216 ∧ Q (.str (Txt.join a' ys')) H :=
              fun p hp => ⟨a, p, ys, rfl, rfl, hp, z, h ρ H .refl r _ (.str _)⟩
            cases e0 : rdl u G with
            | some ws' =>
              rw [e0] at e
              cases e
              obtain ⟨p, vs, rfl, hv, q1⟩ := rdl_of r qv e0
              rw [strsW_ok q1 e2] at hv
              exact fin p (.inl hv)
            | none =>
              rw [e0] at e
              obtain ⟨p, vs, rfl, hv, q1⟩ := rdt_of qv e
              rw [strsW_ok q1 e2] at hv
              exact fin p (.inr hv)
          · exact h.elim
        · exact h.elim
      · exact h.elim
    · exact h.elim
  · exact h.elim
/-- text.index(part): it is there -/
def fIdx (t : T) (ts : List T) (G : GH) : R T := match t with
  | .val (.str a) => match ts with
    | [.val (.str b)] => match Builtin.Str.occurrences a b 0 a.length 1 with
      | i :: _ => .ok (.val (.int (i : Nat))) G
      | [] => .bad
    | _ => .bad
  | _ => .bad
theorem says_sidx : SaysM X ca (fun x xs H Q => ∃ a b i rest, x = .str a ∧ xs = [.str b] ∧ Builtin.Str.occurrences a b 0 a.length 1 = i :: rest ∧ Q (.int (i : Nat)) H) fIdx := by
  intro Wx σ ρ G H H0 x t xs ts Q r qx qs h
  unfold fIdx at h
  split at h
  · cases qx
    split at h
    · obtain ⟨v, rfl, qv⟩ := relTs_one qs
      cases qv
      split at h
      · rename_i i rest e
        exact ⟨_, _, i, rest, rfl, rfl, e, h ρ H .refl r _ (.int _)⟩
      · exact h.elim
    · exact h.elim
  · exact h.elim
/-- text.split(sep) -/
def fSplit (t : T) (ts : List T) (G : GH) : R T := match t with
  | .val (.str a) => match ts with
    | [.val (.str b)] => if (b.length == 0) = false ∧ a.length + 2 ≤ 16777216 then .ok (.tmp ((Txt.split a b).map W.str)) G else .bad
    | _ => .bad
  | _ => .bad
theorem relWs_strs {K : PySem.W.Frag} {ρ : List Addr} {H : Hp} : ∀ (ys : List Str), RelWs K ca ρ H (ys.map V.str) (ys.map W.str)
  | [] => .nil
  | _ :: ys => .cons (.str _) (relWs_strs ys)
theorem says_split : SaysM X ca (fun x xs H Q => ∃ a b, x = .str a ∧ xs = [.str b] ∧ (b.length == 0) = false ∧ a.length + 2 ≤ sizeLine ∧ rNewStrs (Txt.split a b) H Q) fSplit := by
  intro Wx σ ρ G H H0 x t xs ts Q r qx qs h
  unfold fSplit at h
  split at h
  · cases qx
    split at h
    · obtain ⟨v, rfl, qv⟩ := relTs_one qs
      cases qv
      split at h
      · rename_i z
        exact ⟨_, _, rfl, rfl, z.1, by rw [sizeLine_eq]; exact z.2, fun p hp => h ρ _ (.laid hp) (r.laid hp) _ (fresh_tmp r hp (relWs_strs _))⟩
      · exact h.elim
    · exact h.elim
  · exact h.elim
end
end Sy
set_option Elab.async false
set_option linter.all false
set_option maxRecDepth 100000
set_option maxHeartbeats 4000000
namespace Sy
open PySem PySem.Spec PyProof.Rows L2
theorem fz_script {K : PySem.W.Frag} {H : Hp} {a : Addr} {vs : List V} (hO : Only H) (h : SqL K H a vs) : FzL K H a vs := by
  rcases h with h | h
  · rcases h with h | h
    · rcases hO a with e | ⟨o, xs, e⟩ <;> (rw [h] at e; cases e)
    · exact .inl h
  · exact .inr h
theorem relWs_ints {K : PySem.W.Frag} {ca : Nat → Addr} {ρ : List Addr} {H : Hp} : ∀ ns : List Int, RelWs K ca ρ H (ns.map V.int) (ns.map W.int)
  | [] => .nil
  | n :: ns => .cons (.int n) (relWs_ints ns)
theorem RelW.frl' {K : PySem.W.Frag} {ca : Nat → Addr} {ρ : List Addr} {H : Hp} {a : Addr} {vs : List V} {ws : List W} (hs : FzL K H a vs) (h : RelWs K ca ρ H vs ws) : RelW K ca ρ H (.ref a) (.frl ws) :=
  .frl hs h.length fun i v w e1 e2 => paired_get h i v w e1 e2
/-- a def as it stands behind the top -/
structure DefAt (K : PySem.W.Frag) (x : Str) (st : Stmt) (f : Addr) : Prop where
  ex : ∃ (oc : Value) (od : Option Addr) (kV doc pm : Value) (an : Option Addr) (cdv ct : Value) (osl : Array (Option Value)),
    K.lookup f = some ⟨oc, od, .func (PySem.W.fnOf x x (defArgs st) (defBody st) (defScope st) .none kV doc pm an cdv ct), osl⟩ ∧ PySem.W.codeIn K cdv x = true ∧ PySem.W.keepIn K (.ref f) = true
theorem defAt_mk {K : PySem.W.Frag} {x : Str} {st : Stmt} {f : Addr} {oc : Value} {od an : Option Addr} {osl : Array (Option Value)} {kV doc pm cdv ct : Value} (l : K.lookup f = some ⟨oc, od, .func (PySem.W.fnOf x x (defArgs st) (defBody st) (defScope st) .none kV doc pm an cdv ct), osl⟩)
    (c : PySem.W.codeIn K cdv x = true) (k : PySem.W.keepIn K (.ref f) = true) : DefAt K x st f := ⟨_, _, _, _, _, _, _, _, _, l, c, k⟩
/-- .. with defaults, a tuple of them -/
structure DefAtD (K : PySem.W.Frag) (x : Str) (st : Stmt) (f : Addr) (dvs : List V) : Prop where
  ex : ∃ (oc : Value) (od : Option Addr) (T : Addr) (kV doc pm : Value) (an : Option Addr) (cdv ct : Value) (osl : Array (Option Value)) (o : Obj) (its : List Value) (n : Nat),
    K.lookup f = some ⟨oc, od, .func (PySem.W.fnOf x x (defArgs st) (defBody st) (defScope st) (.ref T) kV doc pm an cdv ct), osl⟩ ∧ PySem.W.codeIn K cdv x = true ∧ PySem.W.keepIn K (.ref f) = true ∧ K.lookup T = some o ∧ o.data = .seq its.toArray n ∧ Vals dvs its
theorem defAtD_mk {K : PySem.W.Frag} {x : Str} {st : Stmt} {f T : Addr} {oc : Value} {od an : Option Addr} {osl : Array (Option Value)} {kV doc pm cdv ct : Value} {o : Obj} {its : List Value} {n : Nat} {dvs : List V}
    (l : K.lookup f = some ⟨oc, od, .func (PySem.W.fnOf x x (defArgs st) (defBody st) (defScope st) (.ref T) kV doc pm an cdv ct), osl⟩)
    (c : PySem.W.codeIn K cdv x = true) (k : PySem.W.keepIn K (.ref f) = true) (lT : K.lookup T = some o) (hd : o.data = .seq its.toArray n) (hv : Vals dvs its) : DefAtD K x st f dvs := ⟨_, _, _, _, _, _, _, _, _, _, _, _, _, l, c, k, lT, hd, hv⟩
theorem DefAt.fun {K : PySem.W.Frag} {x : Str} {st : Stmt} {f : Addr} (D : DefAt K x st f) : ∃ fd, FunD K x x (defArgs st) (defBody st) (defScope st) [] [] f fd := by
  obtain ⟨oc, od, kV, doc, pm, an, cdv, ct, osl, l, c, k⟩ := D.ex
  exact ⟨_, ⟨_, _, _, _, _, _, _, _, _, _, rfl, l, c, .inl ⟨rfl, rfl⟩, .inl rfl⟩, k⟩
theorem DefAtD.fun {K : PySem.W.Frag} {x : Str} {st : Stmt} {f : Addr} {dvs : List V} (D : DefAtD K x st f dvs) (hn : dvs ≠ []) : ∃ fd, FunD K x x (defArgs st) (defBody st) (defScope st) dvs [] f fd := by
  obtain ⟨oc, od, T, kV, doc, pm, an, cdv, ct, osl, o, its, n, l, c, k, lT, hd, hv⟩ := D.ex
  exact ⟨_, ⟨_, _, _, _, _, _, _, _, _, _, rfl, l, c, .inr ⟨hn, T, o, its, n, rfl, lT, hd, hv⟩, .inl rfl⟩, k⟩
section
variable {P : Program} {w : World} {K : PySem.W.Frag} {mg : Str → Option Value} {base : Heap} {ca : Nat → Addr}
theorem callable_mk {k : Nat} {x : Str} {ps : List Str} {m : List W → GH → R W} {f : Addr} {fd : FuncData} (hm : mg x = some (.ref f)) (kp : PySem.W.keepIn K (.ref f) = true) (b : Binds K fd ps []) (F : FnOk P w K mg base (L2N.CX P w) k f fd ps (spM K ca ps.length m)) :
    Callable P w K mg base ca k x ps [] m := ⟨f, fd, [], [], hm, kp, b, .nil, fun _ _ => .nil, F⟩
theorem callable_mkD {k : Nat} {x : Str} {ps : List Str} {m : List W → GH → R W} {f : Addr} {fd : FuncData} {dvs : List V} {dws : List W} (hm : mg x = some (.ref f)) (kp : PySem.W.keepIn K (.ref f) = true) (b : ∃ ds, Vals dvs ds ∧ Binds K fd ps ds) (hw : ∀ ρ H, RelWs K ca ρ H dvs dws) (F : FnOk P w K mg base (L2N.CX P w) k f fd ps (spM K ca ps.length m)) :
    Callable P w K mg base ca k x ps dws m := by
  obtain ⟨ds, hv, b⟩ := b
  exact ⟨f, fd, dvs, ds, hm, kp, b, hv, hw, F⟩
/-- all parameters written, a def with defaults -/
theorem bindsFull {x qual : Str} {params : Arguments} {body : List Stmt} {scope : Scope} {dvs : List V} {f : Addr} {fd : FuncData} {ps : List Str} (F : FunD K x qual params body scope dvs [] f fd)
    (h : ∀ (dV kV doc pm : Value) (an : Option Addr) (cdv ct : Value) (us : List Value), us.length = ps.length → bindArgs (PySem.W.fnOf x qual params body scope dV kV doc pm an cdv ct) ⟨us, []⟩ = pure (ps.zip us)) : Binds K fd ps [] := by
  obtain ⟨oc, od, dV, kV, doc, pm, an, cdv, ct, osl, rfl, _, _, _, _⟩ := F.ex
  exact .all (h dV kV doc pm an cdv ct)
theorem konW_int {x : Str} {i : Int} {t : Tok} (h : mg x = some (.int i t)) : KonW K mg ca x (.int i) := ⟨_, .int i, h, ⟨t, rfl⟩, fun _ _ => .int i⟩
theorem konW_str {x z : Str} {t : Tok} (h : mg x = some (.str z t)) : KonW K mg ca x (.str z) := ⟨_, .str z, h, ⟨t, rfl⟩, fun _ _ => .str z⟩
end
/-- the end of a law -/
theorem law_end {l : PySem.W.OpenLaw} {k : Nat} {q : Program} {loose : List Str} {XP : (Str → Option Value) → Heap → Prop} {YP : World → Heap → Prop} {d : DefRec} {K : Params → PySem.W.Frag} {x : Str} {ca : Nat → Addr} {m : List W → GH → R W}
    (hn : l.most = some 63) (hdf : d.params.defaults = []) (hr : Room k callerA) (hY : ∀ (w : World) (h : Heap), YP w h → (K w.params).In h)
    (F : ∀ (w : World) (mg : Str → Option Value) (fa : Addr) (h : Heap), (K w.params).In h → h.Ns mainGlobals mg → mg d.name = some (.ref fa) →
      ∃ fd : FuncData, (∀ (s : Shared) (u : Value), BindsTo s fd ⟨[u], []⟩ [(x, u)]) ∧ ∀ base : Heap, (K w.params).In base → base.Ns mainGlobals mg → FnOk l.prog w (K w.params) mg base (L2N.CX l.prog w) k fa fd [x] (spM (K w.params) ca 1 m))
    (hm : ∀ ns : List Int, ns.length ≤ 63 → (∀ z ∈ ns, Builtin.Int.intBits z ≤ 1048576) → ∃ G, m [.frl (ns.map W.int)] [] = .ok (.bl true) G) :
    PySem.W.WalkO q loose XP YP l.row.toRowW d [] (fun f vs => PySem.call f vs) :=
  L2.walk_ofB (n := 63) (CX := fun w => L2N.CX l.prog w) (sp := fun w => spM (K w.params) ca 1 m) hn (by rw [sizeLine_eq]; decide) hdf hr hY F
    (fun w H a ns hl hb hO hS => by
      obtain ⟨G, e⟩ := hm ns hl hb
      refine ⟨rfl, [], [], [.frl (ns.map W.int)], ⟨rfl, List.nodup_nil, fun n a o h => by simp at h⟩, .cons (RelW.frl' (fz_script hO hS) (relWs_ints ns)) .nil, ?_⟩
      rw [e]
      exact fun ρ' H' _ _ v q => by cases q; rfl)
    fun w H s e s' h => by obtain ⟨_, _, _, _, _, _, _, _, _, _, _, _, z⟩ := h; exact z
theorem konW_intE {K : PySem.W.Frag} {mg : Str → Option Value} {ca : Nat → Addr} {x : Str} {i : Int} (h : ∃ t, mg x = some (.int i t)) : KonW K mg ca x (.int i) := by
  obtain ⟨t, h⟩ := h
  exact konW_int h
theorem konW_strE {K : PySem.W.Frag} {mg : Str → Option Value} {ca : Nat → Addr} {x z : Str} (h : ∃ t, mg x = some (.str z t)) : KonW K mg ca x (.str z) := by
  obtain ⟨t, h⟩ := h
  exact konW_str h
/-- the end of a law whose head tells facts -/
theorem law_endE {l : PySem.W.OpenLaw} {k hn' : Nat} {q : Program} {loose : List Str} {XP : (Str → Option Value) → Heap → Prop} {fa : List He.Fa} {fn : List He.DefD} {d : DefRec} {x : Str} {ca : PySem.W.Frag → Nat → Addr} {m : List W → GH → R W}
    (hn : l.most = some 63) (hdf : d.params.defaults = []) (hr : Room k callerA)
    (F : ∀ (w : World) (mg : Str → Option Value) (fv : Addr) (h : Heap) (K : PySem.W.Frag), K.In h → He.SaysD fa fn K → h.Ns mainGlobals mg → mg d.name = some (.ref fv) →
      ∃ fd : FuncData, (∀ (s : Shared) (u : Value), BindsTo s fd ⟨[u], []⟩ [(x, u)]) ∧ ∀ base : Heap, K.In base → base.Ns mainGlobals mg → FnOk l.prog w K mg base (L2N.CX l.prog w) k fv fd [x] (spM K (ca K) 1 m))
    (hm : ∀ ns : List Int, ns.length ≤ 63 → (∀ z ∈ ns, Builtin.Int.intBits z ≤ 1048576) → ∃ G, m [.frl (ns.map W.int)] [] = .ok (.bl true) G) :
    PySem.W.WalkO q loose XP (He.hookD hn' fa fn).says l.row.toRowW d [] (fun f vs => PySem.call f vs) := by
  refine Att.attach_callB hn hdf fun w s₀ s₁ mg mb fv o pm cd doc a vs ns G Y ho hd hcd hmg hobj hints hlen hbits hg => ?_
  obtain ⟨K, KX, c⟩ := Y
  obtain ⟨fd, hb, hF⟩ := F w mg fv _ K KX c G.T.g hmg
  refine law_call KX G.T.g G.T.b G.T.builtins G.T.nolimit hg hobj hints (Nat.le_trans hlen (by rw [sizeLine_eq]; decide)) hr hF hb (fun H hO hS => ?_) fun H e s' h => ?_
  · obtain ⟨G, e⟩ := hm ns hlen hbits
    refine ⟨rfl, [], [], [.frl (ns.map W.int)], ⟨rfl, List.nodup_nil, fun n a o h => by simp at h⟩, .cons (RelW.frl' (fz_script hO hS) (relWs_ints ns)) .nil, ?_⟩
    rw [e]
    exact fun ρ' H' _ _ v q => by cases q; rfl
  · obtain ⟨_, _, _, _, _, _, _, _, _, _, _, _, z⟩ := h
    exact z
/-! facts of the top, and more of them: functions of the written part -/
abbrev AlX : Type := He.AlD × Bool
def obsX (fa : List He.Fa) (fn : List He.DefD) (fb : List (PySem.W.Frag → Bool)) (K : PySem.W.Frag) : AlX := (He.obsD fa fn K, fb.all fun f => f K)
def obsXG (n : Nat) (fa : List He.Fa) (fn : List He.DefD) (fb : List (PySem.W.Frag → Bool)) (g : Addr → Option Obj) : AlX := obsX fa fn fb (He.frG g (He.asD g n))
def hookX (n : Nat) (fa : List He.Fa) (fn : List He.DefD) (fb : List (PySem.W.Frag → Bool)) : PySem.W.Hook where
  α := AlX
  obs := fun s => obsXG n fa fn fb s.heap.get?
  val := fun _ => (He.valD fn, true)
  says := fun _ h => ∃ K : PySem.W.Frag, K.In h ∧ He.SaysD fa fn K ∧ (fb.all fun f => f K) = true
  of := fun _ s e => ⟨He.frG s.heap.get? (He.asD s.heap.get? n), He.frG_in, congrArg (fun z : AlX => z.1) e, congrArg (fun z : AlX => z.2) e⟩
  keeps := fun _ _ _ ⟨K, hK, c⟩ k => ⟨K, PySem.W.Frag.In.keeps hK k, c⟩
theorem obsXG_eq {n : Nat} {fa : List He.Fa} {fn : List He.DefD} {fb : List (PySem.W.Frag → Bool)} {g : Addr → Option Obj} {s : Shared} (h : ∀ a, g a = s.heap.get? a) : obsXG n fa fn fb g = (hookX n fa fn fb).obs s := by
  have e : g = s.heap.get? := funext h
  rw [e] <;> rfl
theorem fact_of {fb : List (PySem.W.Frag → Bool)} {K : PySem.W.Frag} (c : (fb.all fun f => f K) = true) (i : Nat) {f : PySem.W.Frag → Bool} (h : fb[i]? = some f := by rfl) : f K = true :=
  List.all_eq_true.mp c f (List.mem_of_getElem? h)
def caN (names : List Str) (K : PySem.W.Frag) (n : Nat) : Addr := He.ga K (names.getD n "")
def excCB (K : PySem.W.Frag) (D : Addr) : Bool :=
  He.eqO (PySem.W.findIn K (.ref D) "__getattribute__") (some (some (.builtin "BaseException.__getattribute__"))) && (He.eqO (PySem.W.findIn K (.ref D) "__getattr__") (some none) && (decide (PySem.W.subIn K (.ref D) (.type "BaseException") = some true) && (PySem.W.hasDictIn K D &&
  (He.eqO (PySem.W.findIn K (.ref D) "__class__") (some (some (.builtin "object.__class__"))) && (He.eqO (PySem.W.specialIn K (.builtin "object.__class__") "__get__") (some (some (.builtin "getset_descriptor.__get__"))) && (decide (PySem.W.takesIn K (.builtin "object.__class__") = some true) && decide (PySem.W.mroIn K D (.type "object") = some true)))))))
theorem excCB_ok {K : PySem.W.Frag} {D : Addr} (h : excCB K D = true) : ExcC K D := by
  unfold excCB at h
  simp only [Bool.and_eq_true] at h
  obtain ⟨h1, h2, h3, h4, h5, h6, h7, h8⟩ := h
  exact ⟨He.eqO_ok h1, He.eqO_ok h2, of_decide_eq_true h3, h4, He.eqO_ok h5, He.eqO_ok h6, of_decide_eq_true h7, of_decide_eq_true h8⟩
def itF (names : List Str) (it : ITab) (K : PySem.W.Frag) : Bool := it.all fun e => decide (PySem.W.kitOne K (.ref (caN names K e.1)) (e.2.1.val (caN names K)) = some e.2.2) && excCB K (caN names K e.1)
def xtF (names : List Str) (xt : XTab) (K : PySem.W.Frag) : Bool := xt.all fun e => decide (PySem.W.exmOne K (.ref (caN names K e.1)) (.ref (caN names K e.2.1)) = some e.2.2)
theorem exs_of {names : List Str} {it : ITab} {xt : XTab} {K : PySem.W.Frag} (h1 : itF names it K = true) (h2 : xtF names xt K = true) : Exs K (caN names K) it xt := by
  refine ⟨fun e he => ?_, fun e he => ?_⟩
  · have z := List.all_eq_true.mp h1 e he
    rw [Bool.and_eq_true] at z
    exact ⟨of_decide_eq_true z.1, excCB_ok z.2⟩
  · exact of_decide_eq_true (List.all_eq_true.mp h2 e he)
theorem exW_of {names : List Str} {K : PySem.W.Frag} {h : Heap} {mg : Str → Option Value} {x : Str} {c : Nat} (X : K.In h) (G : h.Ns mainGlobals mg) (hx : names.getD c "" = x) (g : (He.Fa.glo x).ok K = true) (e : (He.Fa.exc x).ok K = true) : ExW K mg (caN names K) x c := by
  obtain ⟨h1, h2, h3, h4⟩ := He.exc_ok e
  subst hx
  exact ⟨He.glo_ok X G g, h1, h2, h3, h4⟩
theorem cls_glo {names : List Str} {K : PySem.W.Frag} {h : Heap} {mg : Str → Option Value} {x : Str} {c : Nat} (X : K.In h) (G : h.Ns mainGlobals mg) (hx : names.getD c "" = x) (g : (He.Fa.glo x).ok K = true) : mg x = some (.ref (caN names K c)) := by
  subst hx
  exact He.glo_ok X G g
/-! constants of the top that are tuples -/
mutual
def valF (K : PySem.W.Frag) : W → Value → Bool
  | .non, v => (match v with
    | .none => true
    | _ => false)
  | .bl b, v => (match v with
    | .bool c => b == c
    | _ => false)
  | .int i, v => (match v with
    | .int j _ => decide (i = j)
    | _ => false)
  | .str x, v => (match v with
    | .str y _ => decide (x = y)
    | _ => false)
  | .tup ws, v => (match v with
    | .ref a => (match K.lookup a with
      | some ⟨.type "tuple", _, .seq its _, _⟩ => decide (its.size ≤ sizeLine) && valsF K ws its.toList
      | _ => false)
    | _ => false)
  | _, _ => false
def valsF (K : PySem.W.Frag) : List W → List Value → Bool
  | [], us => us.isEmpty
  | w :: ws, us => (match us with
    | u :: us => valF K w u && valsF K ws us
    | [] => false)
end
mutual
theorem valF_ok {K : PySem.W.Frag} {ca : Nat → Addr} : ∀ (w : W) (v : Value), valF K w v = true → ∃ x, RelV x v ∧ ∀ ρ H, RelW K ca ρ H x w
  | .non, v, h => by
    unfold valF at h
    split at h
    · exact ⟨.non, rfl, fun _ _ => .non⟩
    · cases h
  | .bl b, v, h => by
    unfold valF at h
    split at h
    · rename_i c
      have e : b = c := by simpa using h
      subst e
      exact ⟨.bl b, rfl, fun _ _ => .bl b⟩
    · cases h
  | .int i, v, h => by
    unfold valF at h
    split at h
    · rename_i j t
      have e := of_decide_eq_true h
      subst e
      exact ⟨.int i, ⟨t, rfl⟩, fun _ _ => .int i⟩
    · cases h
  | .str x, v, h => by
    unfold valF at h
    split at h
    · rename_i y t
      have e := of_decide_eq_true h
      subst e
      exact ⟨.str x, ⟨t, rfl⟩, fun _ _ => .str x⟩
    · cases h
  | .tup ws, v, h => by
    unfold valF at h
    split at h
    · rename_i a
      split at h
      · rename_i d its n sl e
        rw [Bool.and_eq_true] at h
        obtain ⟨xs, hv, hw⟩ := valsF_ok (ca := ca) ws its.toList h.2
        exact ⟨.ref a, rfl, fun ρ H => RelW.tup' (.inr ⟨_, its, n, e, rfl, rfl, of_decide_eq_true h.1, hv⟩) (hw ρ H)⟩
      · cases h
    · cases h
  | .ty _, v, h => by
    unfold valF at h
    cases h
  | .cls _, v, h => by
    unfold valF at h
    cases h
  | .exn _ _, v, h => by
    unfold valF at h
    cases h
  | .loc _, v, h => by
    unfold valF at h
    cases h
  | .frl _, v, h => by
    unfold valF at h
    cases h
theorem valsF_ok {K : PySem.W.Frag} {ca : Nat → Addr} : ∀ (ws : List W) (us : List Value), valsF K ws us = true → ∃ xs, Vals xs us ∧ ∀ ρ H, RelWs K ca ρ H xs ws
  | [], us, h => by
    unfold valsF at h
    cases us with
    | nil => exact ⟨[], .nil, fun _ _ => .nil⟩
    | cons _ _ => cases h
  | w :: ws, us, h => by
    unfold valsF at h
    cases us with
    | nil => cases h
    | cons u us =>
      dsimp only at h
      rw [Bool.and_eq_true] at h
      obtain ⟨x, h1, h2⟩ := valF_ok (ca := ca) w u h.1
      obtain ⟨xs, h3, h4⟩ := valsF_ok (ca := ca) ws us h.2
      exact ⟨x :: xs, .cons h1 h3, fun ρ H => .cons (h2 ρ H) (h4 ρ H)⟩
end
def konF (x : Str) (w : W) (K : PySem.W.Frag) : Bool := match PySem.W.nsIn K mainGlobals x with
  | some (some v) => valF K w v
  | _ => false
theorem konW_F {K : PySem.W.Frag} {h : Heap} {mg : Str → Option Value} {ca : Nat → Addr} {x : Str} {w : W} (X : K.In h) (G : h.Ns mainGlobals mg) (c : konF x w K = true) : KonW K mg ca x w := by
  unfold konF at c
  split at c
  · rename_i v e
    obtain ⟨z, h1, h2⟩ := valF_ok (ca := ca) w v c
    exact ⟨v, z, PySem.W.mg_of X G e, h1, h2⟩
  · cases c
theorem law_endX {l : PySem.W.OpenLaw} {k hn' : Nat} {q : Program} {loose : List Str} {XP : (Str → Option Value) → Heap → Prop} {fa : List He.Fa} {fn : List He.DefD} {fb : List (PySem.W.Frag → Bool)} {d : DefRec} {x : Str} {ca : PySem.W.Frag → Nat → Addr} {m : List W → GH → R W}
    (hn : l.most = some 63) (hdf : d.params.defaults = []) (hr : Room k callerA)
    (F : ∀ (w : World) (mg : Str → Option Value) (fv : Addr) (h : Heap) (K : PySem.W.Frag), K.In h → He.SaysD fa fn K → (fb.all fun f => f K) = true → h.Ns mainGlobals mg → mg d.name = some (.ref fv) →
      ∃ fd : FuncData, (∀ (s : Shared) (u : Value), BindsTo s fd ⟨[u], []⟩ [(x, u)]) ∧ ∀ base : Heap, K.In base → base.Ns mainGlobals mg → FnOk l.prog w K mg base (L2N.CX l.prog w) k fv fd [x] (spM K (ca K) 1 m))
    (hm : ∀ ns : List Int, ns.length ≤ 63 → (∀ z ∈ ns, Builtin.Int.intBits z ≤ 1048576) → ∃ G, m [.frl (ns.map W.int)] [] = .ok (.bl true) G) :
    PySem.W.WalkO q loose XP (hookX hn' fa fn fb).says l.row.toRowW d [] (fun f vs => PySem.call f vs) := by
  refine Att.attach_callB hn hdf fun w s₀ s₁ mg mb fv o pm cd doc a vs ns G Y ho hd hcd hmg hobj hints hlen hbits hg => ?_
  obtain ⟨K, KX, c, cb⟩ := Y
  obtain ⟨fd, hb, hF⟩ := F w mg fv _ K KX c cb G.T.g hmg
  refine law_call KX G.T.g G.T.b G.T.builtins G.T.nolimit hg hobj hints (Nat.le_trans hlen (by rw [sizeLine_eq]; decide)) hr hF hb (fun H hO hS => ?_) fun H e s' h => ?_
  · obtain ⟨G, e⟩ := hm ns hlen hbits
    refine ⟨rfl, [], [], [.frl (ns.map W.int)], ⟨rfl, List.nodup_nil, fun n a o h => by simp at h⟩, .cons (RelW.frl' (fz_script hO hS) (relWs_ints ns)) .nil, ?_⟩
    rw [e]
    exact fun ρ' H' _ _ v q => by cases q; rfl
  · obtain ⟨_, _, _, _, _, _, _, _, _, _, _, _, z⟩ := h
    exact z
end Sy
set_option Elab.async false
set_option linter.all false
set_option maxRecDepth 100000
set_option maxHeartbeats 4000000
namespace Sy
open PySem PySem.Spec PyProof.Rows L2

/-! the computations as equations -/
def asO : Option (Option W) → GH → R T
  | some (some w), G => .ok (.val w) G
  | _, _ => .bad
@[simp] theorem asO_ok (w : W) (G : GH) : asO (some (some w)) G = .ok (.val w) G := (rfl)
section
variable {τ : Sl} {G : GH}
@[simp] theorem mVar_at (i : Nat) : mVar i τ G = asO τ[i]? G := by
  unfold mVar asO
  cases τ[i]? with
  | none => rfl
  | some o => cases o <;> rfl
@[simp] theorem mC_at (w : W) : mC w τ G = .ok (.val w) G := (rfl)
@[simp] theorem mBin_at (f : T → T → GH → R T) (a b : M T) : mBin f a b τ G = (a τ G).bind fun x G1 => (b τ G1).bind fun y G2 => f x y G2 := (rfl)
@[simp] theorem mUn_at (f : T → GH → R T) (a : M T) : mUn f a τ G = (a τ G).bind f := (rfl)
@[simp] theorem force_val (w : W) : force (.val w) G = .ok w G := (rfl)
@[simp] theorem force_tmp (ws : List W) : force (.tmp ws) G = .ok (.loc G.length) (G ++ [.lst ws]) := (rfl)
@[simp] theorem mF_at (a : M T) : mF a τ G = (a τ G).bind force := (rfl)
@[simp] theorem mNil_at : mNil τ G = .ok [] G := (rfl)
@[simp] theorem mCons_at (a : M T) (r : M (List W)) : mCons a r τ G = ((a τ G).bind force).bind fun w G1 => (r τ G1).bind fun ws G2 => .ok (w :: ws) G2 := (rfl)
@[simp] theorem mLst_at (a : M (List W)) : mLst a τ G = (a τ G).bind fun ws G1 => if ws.length ≤ 16777216 then .ok (.tmp ws) G1 else .bad := (rfl)
@[simp] theorem mTup_at (a : M (List W)) : mTup a τ G = (a τ G).bind fun ws G1 => if ws.length ≤ 16777216 then .ok (.val (.tup ws)) G1 else .bad := (rfl)
@[simp] theorem asB_bl (b : Bool) : asB (.val (.bl b)) G = .ok b G := (rfl)
@[simp] theorem mB_at (a : M T) : mB a τ G = (a τ G).bind asB := (rfl)
@[simp] theorem mOfB_at (a : M Bool) : mOfB a τ G = (a τ G).bind fun b G1 => .ok (.val (.bl b)) G1 := (rfl)
@[simp] theorem mAnd_at (a b : M Bool) : mAnd a b τ G = (a τ G).bind fun x G1 => if x then b τ G1 else .ok false G1 := (rfl)
@[simp] theorem mOr_at (a b : M Bool) : mOr a b τ G = (a τ G).bind fun x G1 => if x then .ok true G1 else b τ G1 := (rfl)
@[simp] theorem mNot_at (a : M Bool) : mNot a τ G = (a τ G).bind fun x G1 => .ok (!x) G1 := (rfl)
@[simp] theorem mIf_at (c : M Bool) (a b : M T) : mIf c a b τ G = (c τ G).bind fun x G1 => if x then a τ G1 else b τ G1 := (rfl)
@[simp] theorem mAndV_at (a b : M T) : mAndV a b τ G = (a τ G).bind fun x G1 => (asB x G1).bind fun c G2 => if c then b τ G2 else .ok (.val (.bl false)) G2 := (rfl)
@[simp] theorem mOrV_at (a b : M T) : mOrV a b τ G = (a τ G).bind fun x G1 => (asB x G1).bind fun c G2 => if c then .ok (.val (.bl true)) G2 else b τ G2 := (rfl)
@[simp] theorem mNotV_at (a : M T) : mNotV a τ G = (a τ G).bind fun x G1 => (asB x G1).bind fun c G2 => .ok (.val (.bl (!c))) G2 := (rfl)
@[simp] theorem mCall_at (m : List W → GH → R W) (dws : List W) (ma : M (List W)) : mCall m dws ma τ G = (ma τ G).bind fun ws G1 => (m (ws ++ dws) G1).bind fun w G2 => .ok (.val w) G2 := (rfl)
@[simp] theorem mNilT_at : mNilT τ G = .ok [] G := (rfl)
@[simp] theorem mConsT_at (a : M T) (r : M (List T)) : mConsT a r τ G = (a τ G).bind fun t G1 => (r τ G1).bind fun ts G2 => .ok (t :: ts) G2 := (rfl)
@[simp] theorem mBi_at (f : List T → GH → R T) (ma : M (List T)) : mBi f ma τ G = (ma τ G).bind f := (rfl)
@[simp] theorem mMt_at (ty : T → GH → Bool) (f : T → List T → GH → R T) (mo : M T) (ma : M (List T)) : mMt ty f mo ma τ G = (mo τ G).bind fun x G1 => if ty x G1 then (ma τ G1).bind fun ts G2 => f x ts G2 else .bad := (rfl)
@[simp] theorem mMtF_at (ty : T → GH → Bool) (f : T → List W → GH → R T) (mo : M T) (ma : M (List W)) : mMtF ty f mo ma τ G = (mo τ G).bind fun x G1 => if ty x G1 then (ma τ G1).bind fun ts G2 => f x ts G2 else .bad := (rfl)
@[simp] theorem mTru_at (m : M T) : mTru m τ G = (m τ G).bind truT := (rfl)
@[simp] theorem mChain_at (f g : T → T → GH → R T) (a b c : M T) : mChain f g a b c τ G = (a τ G).bind fun x G1 => (b τ G1).bind fun y G2 => (f x y G2).bind fun z G3 => (asB z G3).bind fun k G4 => if k then (c τ G4).bind fun u G5 => g y u G5 else .ok (.val (.bl false)) G4 := (rfl)
@[simp] theorem mNoP_at : mNoP τ G = .ok none G := (rfl)
def asI : T → GH → R (Option Int)
  | .val (.int i), G => .ok (some i) G
  | _, _ => .bad
@[simp] theorem asI_int (i : Int) : asI (.val (.int i)) G = .ok (some i) G := (rfl)
@[simp] theorem mP_at (m : M T) : mP m τ G = (m τ G).bind asI := by
  unfold mP
  congr 1
  funext t G1
  cases t with
  | tmp ws => rfl
  | val w => cases w <;> rfl
@[simp] theorem mSl_at (m : M T) (l u : M (Option Int)) : mSl m l u τ G = (m τ G).bind fun t G1 => (l τ G1).bind fun lo G2 => (u τ G2).bind fun hi G3 => fSl t lo hi G3 := (rfl)
@[simp] theorem sNext_at : sNext τ G = .nx τ G := (rfl)
@[simp] theorem sSeq_at (a b : MS) : sSeq a b τ G = (a τ G).andThen b := (rfl)
@[simp] theorem sDrop_at (m : M T) : sDrop m τ G = (m τ G).toS τ fun _ G1 => .nx τ G1 := (rfl)
@[simp] theorem sRet_at (m : M T) : sRet m τ G = (mF m τ G).toS τ fun w G1 => .rt w G1 := (rfl)
@[simp] theorem sRetN_at : sRetN τ G = .rt .non G := (rfl)
@[simp] theorem sBrk_at : sBrk τ G = .bk τ G := (rfl)
@[simp] theorem sCt_at : sCt τ G = .ct τ G := (rfl)
@[simp] theorem sIf_at (c : M Bool) (a b : MS) : sIf c a b τ G = (c τ G).toS τ fun x G1 => if x then a τ G1 else b τ G1 := (rfl)
@[simp] theorem sSet_at (i : Nat) (m : M T) : sSet i m τ G = (mF m τ G).toS τ fun w G1 => .nx (τ.set i (some w)) G1 := (rfl)
@[simp] theorem sAug_at (i : Nat) (f : T → T → GH → R T) (m : M T) : sAug i f m τ G = (mVar i τ G).toS τ fun x G0 => (m τ G0).toS τ fun y G1 => ((f x y G1).bind force).toS τ fun w G2 => .nx (τ.set i (some w)) G2 := (rfl)
theorem sFor_at (m : M (List W × Src)) (g : MG) (b : MS) : sFor m g b τ G = (m τ G).toS τ fun p G1 => forL p.2 g b p.1 τ G1 := (rfl)
@[simp] theorem gN_at (i : Nat) (w : W) : gN i w τ = some (τ.set i (some w)) := (rfl)
@[simp] theorem gE_at : gE [] τ = some τ := (rfl)
@[simp] theorem gC_at (g : MG) (gs : List W → Sl → Option Sl) (w : W) (ws : List W) : gC g gs (w :: ws) τ = (g w τ).bind (gs ws) := (rfl)
@[simp] theorem gT_at (gs : List W → Sl → Option Sl) (ws : List W) : gT gs (.tup ws) τ = gs ws τ := (rfl)
def asG : Option Sl → GH → RS
  | some τ, G => .nx τ G
  | none, _ => .bad
@[simp] theorem asG_some : asG (some τ) G = .nx τ G := (rfl)
@[simp] theorem sAsg_at (g : MG) (m : M T) : sAsg g m τ G = (mF m τ G).toS τ fun w G1 => asG (g w τ) G1 := by
  unfold sAsg
  congr 1
  funext w G1
  unfold asG
  cases g w τ <;> rfl
def asTwo (τ : Sl) (i j : Nat) : List W → GH → RS
  | [w, u], G => .nx ((τ.set i (some w)).set j (some u)) G
  | _, _ => .bad
@[simp] theorem asTwo_at (i j : Nat) (w u : W) : asTwo τ i j [w, u] G = .nx ((τ.set i (some w)).set j (some u)) G := (rfl)
@[simp] theorem sPar_at (i j : Nat) (m : M (List W)) : sPar i j m τ G = (m τ G).toS τ (asTwo τ i j) := by
  unfold sPar
  congr 1
  funext ws G1
  rcases ws with _ | ⟨a, _ | ⟨b, _ | ⟨c, r⟩⟩⟩ <;> rfl
theorem miR_at (m : M (List W)) : miR m τ G = (m τ G).bind iterR := (rfl)
theorem miR2_at (m : M (List W)) : miR2 m τ G = (m τ G).bind iterR2 := (rfl)
theorem miA_at (m : M T) : miA m τ G = (m τ G).bind iterA := (rfl)
theorem miB_at (f : List T → GH → R (List W × Src)) (m : M (List T)) : miB f m τ G = (m τ G).bind f := (rfl)
def fin : RS → R W
  | .nx _ G' => .ok .non G'
  | .rt w G' => .ok w G'
  | .ex c fs _ G' => .ex c fs G'
  | _ => .bad
@[simp] theorem fin_nx : fin (.nx τ G) = .ok .non G := (rfl)
@[simp] theorem fin_rt (w : W) : fin (.rt w G) = .ok w G := (rfl)
@[simp] theorem fin_ex (c : Nat) (fs : List (Str × W)) : fin (.ex c fs τ G) = .ex c fs G := (rfl)
theorem mDef_fin (n : Nat) (b : MS) (ws : List W) : mDef n b ws G = fin (b (ws.map some ++ List.replicate (n - ws.length) none) G) := by
  unfold mDef fin
  cases b (ws.map some ++ List.replicate (n - ws.length) none) G <;> rfl
/-- a def at its arguments: what its body does from the slots -/
theorem mDef_at {n : Nat} {b : MS} {ws : List W} (τ : Sl) {r : RS} (hτ : ws.map some ++ List.replicate (n - ws.length) none = τ) (h : b τ G = r) : mDef n b ws G = fin r := by
  rw [mDef_fin, hτ, h]
theorem mDef_ok {n : Nat} {b : MS} {ws : List W} (τ : Sl) {w : W} {G' : GH} (h : b τ G = .rt w G') (hτ : ws.map some ++ List.replicate (n - ws.length) none = τ := by rfl) : mDef n b ws G = .ok w G' := by
  rw [mDef_fin, hτ, h]; rfl
end

/-! operations -/
section
variable {G : GH}
@[simp] theorem fAdd_int (i j : Int) : fAdd (.val (.int i)) (.val (.int j)) G = .ok (.val (.int (i + j))) G := (rfl)
@[simp] theorem fAugAdd_int (i j : Int) : fAugAdd (.val (.int i)) (.val (.int j)) G = .ok (.val (.int (i + j))) G := (rfl)
@[simp] theorem fSub_int (i j : Int) : fSub (.val (.int i)) (.val (.int j)) G = .ok (.val (.int (i - j))) G := (rfl)
@[simp] theorem fAnd_int (i j : Int) : fAnd (.val (.int i)) (.val (.int j)) G = .ok (.val (.int (Builtin.bitAnd i j))) G := (rfl)
@[simp] theorem fOr_int (i j : Int) : fOr (.val (.int i)) (.val (.int j)) G = .ok (.val (.int (Builtin.bitOr i j))) G := (rfl)
@[simp] theorem fXor_int (i j : Int) : fXor (.val (.int i)) (.val (.int j)) G = .ok (.val (.int (Builtin.bitXor i j))) G := (rfl)
@[simp] theorem fLt_int (i j : Int) : fLt (.val (.int i)) (.val (.int j)) G = .ok (.val (.bl (decide (i < j)))) G := (rfl)
@[simp] theorem fLe_int (i j : Int) : fLe (.val (.int i)) (.val (.int j)) G = .ok (.val (.bl (decide (i ≤ j)))) G := (rfl)
@[simp] theorem fGt_int (i j : Int) : fGt (.val (.int i)) (.val (.int j)) G = .ok (.val (.bl (decide (j < i)))) G := (rfl)
@[simp] theorem fGe_int (i j : Int) : fGe (.val (.int i)) (.val (.int j)) G = .ok (.val (.bl (decide (j ≤ i)))) G := (rfl)
@[simp] theorem fNeg_int (i : Int) : fNeg (.val (.int i)) G = .ok (.val (.int (-i))) G := (rfl)
theorem fI2_ok {c : Int → Int → Bool} {g : Int → Int → Int} {i j : Int} (h : c i j = true) : fI2 c g (.val (.int i)) (.val (.int j)) G = .ok (.val (.int (g i j))) G := by
  unfold fI2
  dsimp only
  rw [if_pos h]
theorem fMul_int {i j : Int} (h : mulOk i j = true) : fMul (.val (.int i)) (.val (.int j)) G = .ok (.val (.int (i * j))) G := by
  unfold fMul
  dsimp only
  rw [if_pos h]
theorem mulOk_of {i j : Int} {a b : Nat} (ha : Builtin.Int.intBits i ≤ a) (hb : Builtin.Int.intBits j ≤ b) (h : a + b ≤ 134217728) : mulOk i j = true := by
  unfold mulOk
  exact decide_eq_true (by omega)
theorem fFdiv_int {i j : Int} (h : 0 < j) (hl : j.natAbs.log2 < 9000) : fFdiv (.val (.int i)) (.val (.int j)) G = .ok (.val (.int (i / j))) G :=
  fI2_ok (by simp only [decide_eq_true h, decide_eq_true hl, Bool.and_self])
theorem fMod_int {i j : Int} (h : 0 < j) : fMod (.val (.int i)) (.val (.int j)) G = .ok (.val (.int (i % j))) G := fI2_ok (decide_eq_true h)
theorem fShr_int {i j : Int} (h : 0 ≤ j) : fShr (.val (.int i)) (.val (.int j)) G = .ok (.val (.int (i / 2 ^ j.toNat))) G := fI2_ok (decide_eq_true h)
theorem fShl_int {i j : Int} (h : 0 ≤ j) (hl : (Builtin.Int.intBits i : Int) + j ≤ 2 ^ 27) : fShl (.val (.int i)) (.val (.int j)) G = .ok (.val (.int (i * 2 ^ j.toNat))) G :=
  fI2_ok (by simp only [decide_eq_true h, decide_eq_true hl, Bool.and_self])
theorem fEq_data {x y : T} {d e : PyData} (hx : toDT G x = some d) (hy : toDT G y = some e) : fEq x y G = .ok (.val (.bl (PyData.eqv d e))) G := by
  unfold fEq; rw [hx, hy]
theorem fNe_data {x y : T} {d e : PyData} (hx : toDT G x = some d) (hy : toDT G y = some e) : fNe x y G = .ok (.val (.bl (!PyData.eqv d e))) G := by
  unfold fNe; rw [hx, hy]
@[simp] theorem fEq_int (i j : Int) : fEq (.val (.int i)) (.val (.int j)) G = .ok (.val (.bl (decide (i = j)))) G := fEq_data (d := .int i) (e := .int j) rfl rfl
@[simp] theorem fNe_int (i j : Int) : fNe (.val (.int i)) (.val (.int j)) G = .ok (.val (.bl (!decide (i = j)))) G := fNe_data (d := .int i) (e := .int j) rfl rfl
@[simp] theorem truT_bl (b : Bool) : truT (.val (.bl b)) G = .ok b G := (rfl)
@[simp] theorem truT_int (i : Int) : truT (.val (.int i)) G = .ok (i != 0) G := (rfl)
@[simp] theorem truT_non : truT (.val .non) G = .ok false G := (rfl)
@[simp] theorem truT_tmp (ws : List W) : truT (.tmp ws) G = .ok (!ws.isEmpty) G := (rfl)
@[simp] theorem truT_tup (ws : List W) : truT (.val (.tup ws)) G = .ok (!ws.isEmpty) G := (rfl)
@[simp] theorem iterA_tup (ws : List W) : iterA (.val (.tup ws)) G = .ok (ws, []) G := (rfl)
@[simp] theorem iterA_tmp (ws : List W) : iterA (.tmp ws) G = .ok (ws, []) G := (rfl)
@[simp] theorem iterA_frl (ws : List W) : iterA (.val (.frl ws)) G = .ok (ws, []) G := (rfl)
theorem iterA_loc {n : Nat} {ws : List W} (h : rdw G (.loc n) = some ws) : iterA (.val (.loc n)) G = .ok (ws, [(n, ws)]) G := by
  unfold iterA
  dsimp only
  rw [h]
theorem in62_of {i : Int} (h1 : -4611686018427387904 ≤ i) (h2 : i < 4611686018427387904) : in62 i = true := by
  unfold in62
  rw [show (2 : Int) ^ 62 = 4611686018427387904 from rfl, decide_eq_true h1, decide_eq_true h2]; rfl
theorem iterR_ok {j : Int} (h : in62 j = true) : iterR [.int j] G = .ok (rangeW 0 j.toNat, []) G := by
  unfold iterR
  dsimp only
  rw [if_pos h]
theorem iterR2_ok {i j : Int} (h : in62 i = true) (h2 : in62 j = true) : iterR2 [.int i, .int j] G = .ok (rangeW i (j - i).toNat, []) G := by
  unfold iterR2
  dsimp only
  rw [h, h2]; rfl
@[simp] theorem rangeW_len (lo : Int) (n : Nat) : (rangeW lo n).length = n := by simp [rangeW]
theorem rangeW_get {lo : Int} {n i : Nat} {w : W} (h : (rangeW lo n)[i]? = some w) : i < n ∧ w = .int (lo + i) := by
  have hl : i < n := by
    have := (List.getElem?_eq_some_iff.mp h).1
    simpa using this
  refine ⟨hl, ?_⟩
  unfold rangeW at h
  rw [List.getElem?_map, List.getElem?_range hl] at h
  simpa using h.symm
/-! what stands on top of a heap -/
@[simp] theorem get_top0 (xs : List GO) : (G ++ xs)[G.length]? = xs[0]? := by
  rw [List.getElem?_append_right (Nat.le_refl _), Nat.sub_self]
@[simp] theorem get_topk (xs : List GO) (k : Nat) : (G ++ xs)[G.length + k]? = xs[k]? := by
  rw [List.getElem?_append_right (Nat.le_add_right _ _), Nat.add_sub_cancel_left]
@[simp] theorem set_top0 (xs : List GO) (o : GO) : (G ++ xs).set G.length o = G ++ xs.set 0 o := by
  rw [List.set_append_right _ _ (Nat.le_refl _), Nat.sub_self]
@[simp] theorem set_topk (xs : List GO) (k : Nat) (o : GO) : (G ++ xs).set (G.length + k) o = G ++ xs.set k o := by
  rw [List.set_append_right _ _ (Nat.le_add_right _ _), Nat.add_sub_cancel_left]
@[simp] theorem rd_lst (ws : List W) : GO.rd (.lst ws) = some ws := (rfl)
@[simp] theorem wr_lst (ws : List W) : GO.wr (.lst ws) = some ws := (rfl)
@[simp] theorem rdw_loc (n : Nat) : rdw G (.loc n) = G[n]?.bind GO.rd := (rfl)
@[simp] theorem rdw_frl (ws : List W) : rdw G (.frl ws) = some ws := (rfl)
@[simp] theorem wrw_loc (n : Nat) : wrw G (.loc n) = G[n]?.bind GO.wr := (rfl)
@[simp] theorem rdl_tmp (ws : List W) : rdl (.tmp ws) G = some ws := (rfl)
@[simp] theorem rdl_val (w : W) : rdl (.val w) G = rdw G w := (rfl)
@[simp] theorem wrl_tmp (ws : List W) : wrl (.tmp ws) G = some ws := (rfl)
@[simp] theorem wrl_val (w : W) : wrl (.val w) G = wrw G w := (rfl)
@[simp] theorem lstAt_loc (n : Nat) : lstAt (.val (.loc n)) G = (G[n]?.bind GO.wr).map fun ws => (n, ws) := (rfl)
theorem fApp_ok {n : Nat} {us : List W} {w : W} (h : G[n]? = some (.lst us)) (hl : us.length < 16777216) : fApp (.val (.loc n)) [w] G = .ok (.val .non) (G.set n (.lst (us ++ [w]))) := by
  unfold fApp
  simp [h, hl]
theorem isLst_ok {n : Nat} {us : List W} (h : G[n]? = some (.lst us)) : isLst (.val (.loc n)) G = true := by
  unfold isLst
  simp [h]
end

/-! loops -/
@[simp] theorem still_nil' {G : GH} : still [] G = true := still_nil
theorem still_of {n : Nat} {ws : List W} {G : GH} (h : G[n]? = some (.lst ws)) : still [(n, ws)] G = true := still_iff.mpr fun p hp => by
  simp at hp; subst hp; simp [h]
section
variable {src : Src} {g : MG} {b : MS}
/-- what a turn of a loop leaves -/
def Turn (N : Sl → GH → Prop) (E : RS → Prop) : RS → Prop
  | .nx τ G => N τ G
  | .ct τ G => N τ G
  | .bk τ G => E (.nx τ G)
  | .rt w G => E (.rt w G)
  | .ex c fs τ G => E (.ex c fs τ G)
  | .bad => False
@[simp] theorem turn_nx {N : Sl → GH → Prop} {E : RS → Prop} {τ : Sl} {G : GH} : Turn N E (.nx τ G) = N τ G := (rfl)
@[simp] theorem turn_ct {N : Sl → GH → Prop} {E : RS → Prop} {τ : Sl} {G : GH} : Turn N E (.ct τ G) = N τ G := (rfl)
@[simp] theorem turn_bk {N : Sl → GH → Prop} {E : RS → Prop} {τ : Sl} {G : GH} : Turn N E (.bk τ G) = E (.nx τ G) := (rfl)
@[simp] theorem turn_rt {N : Sl → GH → Prop} {E : RS → Prop} {w : W} {G : GH} : Turn N E (.rt w G) = E (.rt w G) := (rfl)
@[simp] theorem turn_ex {N : Sl → GH → Prop} {E : RS → Prop} {c : Nat} {fs : List (Str × W)} {τ : Sl} {G : GH} : Turn N E (.ex c fs τ G) = E (.ex c fs τ G) := (rfl)
theorem forL_run (I : Nat → Sl → GH → Prop) (E : RS → Prop) {ws : List W} {τ : Sl} {G : GH} (h0 : I 0 τ G)
    (hs : ∀ i w τ G, ws[i]? = some w → I i τ G → still src G = true ∧ ∃ τ1, g w τ = some τ1 ∧ Turn (I (i + 1)) E (b τ1 G))
    (he : ∀ τ G, I ws.length τ G → still src G = true ∧ E (.nx τ G)) : E (forL src g b ws τ G) := by
  have key : ∀ (n i : Nat) (τ : Sl) (G : GH), n = ws.length - i → i ≤ ws.length → I i τ G → E (forL src g b (ws.drop i) τ G) := by
    intro n
    induction n with
    | zero =>
      intro i τ G hn hi h
      have e : i = ws.length := by omega
      subst e
      obtain ⟨h1, h2⟩ := he τ G h
      rw [List.drop_length]
      unfold forL
      rw [h1]; exact h2
    | succ n ih =>
      intro i τ G hn hi h
      have hlt : i < ws.length := by omega
      rw [List.drop_eq_getElem_cons hlt]
      obtain ⟨h1, τ1, h2, h3⟩ := hs i _ τ G (List.getElem?_eq_getElem hlt) h
      unfold forL
      rw [h1, h2]
      simp only [if_true]
      cases e : b τ1 G with
      | nx τ2 G2 => rw [e] at h3; exact ih (i + 1) τ2 G2 (by omega) hlt h3
      | ct τ2 G2 => rw [e] at h3; exact ih (i + 1) τ2 G2 (by omega) hlt h3
      | bk τ2 G2 => rw [e] at h3; exact h3
      | rt w G2 => rw [e] at h3; exact h3
      | ex c fs τ2 G2 => rw [e] at h3; exact h3
      | bad => rw [e] at h3; exact h3.elim
  have := key ws.length 0 τ G rfl (Nat.zero_le _) h0
  rwa [List.drop_zero] at this
theorem whileF_run (I : Nat → Sl → GH → Prop) (E : RS → Prop) {c : M Bool} {m n : Nat} {τ : Sl} {G : GH} (h0 : I m τ G) (hn : m < n)
    (hs : ∀ m τ G, I m τ G → ∃ x G1, c τ G = .ok x G1 ∧ if x then Turn (fun τ G => ∃ m', m' < m ∧ I m' τ G) E (b τ G1) else E (.nx τ G1)) : E (whileF c b n τ G) := by
  induction n generalizing m τ G with
  | zero => omega
  | succ n ih =>
    obtain ⟨x, G1, h1, h2⟩ := hs m τ G h0
    unfold whileF
    rw [h1]
    cases x with
    | false => simpa using h2
    | true =>
      simp only [R.toS_ok, if_true] at h2 ⊢
      cases e : b τ G1 with
      | nx τ2 G2 => rw [e] at h2; obtain ⟨m', hm, h3⟩ := h2; exact ih h3 (by omega)
      | ct τ2 G2 => rw [e] at h2; obtain ⟨m', hm, h3⟩ := h2; exact ih h3 (by omega)
      | bk τ2 G2 => rw [e] at h2; exact h2
      | rt w G2 => rw [e] at h2; exact h2
      | ex c fs τ2 G2 => rw [e] at h2; exact h2
      | bad => rw [e] at h2; exact h2.elim
/-- a comprehension that leaves the heap as it is -/
theorem compF_map {c : M Bool} {e : M T} {τ : Sl} {G : GH} {ws : List W} (f : W → W) (hs : still src G = true)
    (h : ∀ w ∈ ws, ∃ τ1, g w τ = some τ1 ∧ c τ1 G = .ok true G ∧ (e τ1 G).bind force = .ok (f w) G) : compF src g c e τ ws G = .ok (ws.map f) G := by
  induction ws with
  | nil => unfold compF; rw [hs]; rfl
  | cons w ws ih =>
    obtain ⟨τ1, h1, h2, h3⟩ := h w (List.mem_cons_self ..)
    unfold compF
    rw [hs, h1]
    have h3' : mF e τ1 G = .ok (f w) G := h3
    simp only [if_true, h2, R.noEx, R.bind_ok, h3', ih fun u hu => h u (List.mem_cons_of_mem _ hu)]
    rfl
theorem mComp_at (mi : M (List W × Src)) (c : M Bool) (e : M T) (vs : List Nat) (τ : Sl) (G : GH) : mComp mi g c e vs τ G = (mi τ G).bind fun p G1 =>
  if p.1.length ≤ 16777216 then (compF p.2 g c e (wipeS τ vs) p.1 G1).bind fun ys G2 => .ok (.tmp ys) G2 else .bad := (rfl)
@[simp] theorem mYes_at (τ : Sl) (G : GH) : mYes τ G = .ok true G := (rfl)
end
end Sy
set_option Elab.async false
set_option linter.all false
set_option maxRecDepth 100000
set_option maxHeartbeats 4000000
namespace Sy
open PySem PySem.Spec PyProof.Rows L2
/-! like data -/
theorem eqvA_cons (x y : PyData) (xs ys : List PyData) : PyData.eqvAll (x :: xs) (y :: ys) = (PyData.eqv x y && PyData.eqvAll xs ys) := by rw [PyData.eqvAll]
mutual
def noDict : PyData → Bool
  | .dict _ => false
  | .list xs => noDictA xs
  | .tuple xs => noDictA xs
  | _ => true
def noDictA : List PyData → Bool
  | [] => true
  | x :: xs => noDict x && noDictA xs
end
mutual
theorem eqv_self : ∀ d : PyData, noDict d = true → PyData.eqv d d = true
  | .none, _ => by rw [PyData.eqv]
  | .bool b, _ => by rw [PyData.eqv]; simp
  | .int b, _ => by rw [PyData.eqv]; simp
  | .str b, _ => by rw [PyData.eqv]; simp
  | .list xs, h => by rw [PyData.eqv]; exact eqvA_self xs (by simpa [noDict] using h)
  | .tuple xs, h => by rw [PyData.eqv]; exact eqvA_self xs (by simpa [noDict] using h)
  | .dict xs, h => by simp [noDict] at h
theorem eqvA_self : ∀ xs : List PyData, noDictA xs = true → PyData.eqvAll xs xs = true
  | [], _ => by rw [PyData.eqvAll]
  | x :: xs, h => by
    simp [noDictA] at h
    rw [eqvA_cons, eqv_self x h.1, eqvA_self xs h.2]; rfl
end
/-! no truths, no dicts -/
mutual
def plainD : PyData → Bool
  | .dict _ => false
  | .bool _ => false
  | .list xs => plainA xs
  | .tuple xs => plainA xs
  | _ => true
def plainA : List PyData → Bool
  | [] => true
  | x :: xs => plainD x && plainA xs
end
mutual
theorem eqv_eq : ∀ d e : PyData, plainD d = true → plainD e = true → PyData.eqv d e = true → d = e
  | .none, .none, _, _, _ => rfl
  | .int a, .int b, _, _, h => by rw [PyData.eqv] at h; simp at h; rw [h]
  | .str a, .str b, _, _, h => by rw [PyData.eqv] at h; simp at h; rw [h]
  | .list xs, .list ys, h1, h2, h => by rw [PyData.eqv] at h; rw [eqvA_eq xs ys (by simpa [plainD] using h1) (by simpa [plainD] using h2) h]
  | .tuple xs, .tuple ys, h1, h2, h => by rw [PyData.eqv] at h; rw [eqvA_eq xs ys (by simpa [plainD] using h1) (by simpa [plainD] using h2) h]
  | .bool _, _, h, _, _ => by simp [plainD] at h
  | .dict _, _, h, _, _ => by simp [plainD] at h
  | .none, .bool _, _, h, _ | .int _, .bool _, _, h, _ | .str _, .bool _, _, h, _ | .list _, .bool _, _, h, _ | .tuple _, .bool _, _, h, _ => by simp [plainD] at h
  | .none, .dict _, _, h, _ | .int _, .dict _, _, h, _ | .str _, .dict _, _, h, _ | .list _, .dict _, _, h, _ | .tuple _, .dict _, _, h, _ => by simp [plainD] at h
  | .none, .int _, _, _, h | .none, .str _, _, _, h | .none, .list _, _, _, h | .none, .tuple _, _, _, h => by simp [PyData.eqv] at h
  | .int _, .none, _, _, h | .int _, .str _, _, _, h | .int _, .list _, _, _, h | .int _, .tuple _, _, _, h => by simp [PyData.eqv] at h
  | .str _, .none, _, _, h | .str _, .int _, _, _, h | .str _, .list _, _, _, h | .str _, .tuple _, _, _, h => by simp [PyData.eqv] at h
  | .list _, .none, _, _, h | .list _, .int _, _, _, h | .list _, .str _, _, _, h | .list _, .tuple _, _, _, h => by simp [PyData.eqv] at h
  | .tuple _, .none, _, _, h | .tuple _, .int _, _, _, h | .tuple _, .str _, _, _, h | .tuple _, .list _, _, _, h => by simp [PyData.eqv] at h
theorem eqvA_eq : ∀ xs ys : List PyData, plainA xs = true → plainA ys = true → PyData.eqvAll xs ys = true → xs = ys
  | [], [], _, _, _ => rfl
  | [], _ :: _, _, _, h => by simp [PyData.eqvAll] at h
  | _ :: _, [], _, _, h => by simp [PyData.eqvAll] at h
  | x :: xs, y :: ys, h1, h2, h => by
    rw [eqvA_cons, Bool.and_eq_true] at h
    simp [plainA] at h1 h2
    rw [eqv_eq x y h1.1 h2.1 h.1, eqvA_eq xs ys h1.2 h2.2 h.2]
end
mutual
theorem noDict_plain : ∀ d : PyData, plainD d = true → noDict d = true
  | .none, _ => rfl
  | .bool _, _ => rfl
  | .int _, _ => rfl
  | .str _, _ => rfl
  | .list xs, h => by rw [noDict]; exact noDictA_plain xs (by simpa [plainD] using h)
  | .tuple xs, h => by rw [noDict]; exact noDictA_plain xs (by simpa [plainD] using h)
  | .dict _, h => by simp [plainD] at h
theorem noDictA_plain : ∀ xs : List PyData, plainA xs = true → noDictA xs = true
  | [], _ => rfl
  | x :: xs, h => by
    simp [plainA] at h
    rw [noDictA, noDict_plain x h.1, noDictA_plain xs h.2]; rfl
end
open Classical in
theorem eqv_dec {d e : PyData} (h1 : plainD d = true) (h2 : plainD e = true) : PyData.eqv d e = decide (d = e) := by
  by_cases h : d = e
  · subst h
    rw [eqv_self d (noDict_plain d h1)]
    simp
  · cases z : PyData.eqv d e with
    | true => exact absurd (eqv_eq d e h1 h2 z) h
    | false => simp [h]
theorem plainA_ints (is : List Int) : plainA (is.map PyData.int) = true := by
  induction is with
  | nil => rfl
  | cons i is ih => rw [List.map_cons, plainA, ih]; rfl
theorem ints_inj {is js : List Int} : is.map PyData.int = js.map PyData.int ↔ is = js := by
  constructor
  · intro h
    induction is generalizing js with
    | nil => cases js <;> simp at h ⊢
    | cons i is ih =>
      cases js with
      | nil => simp at h
      | cons j js => simp at h; rw [h.1, ih (by simpa using h.2)]
  · intro h; rw [h]
theorem eqv_ints (is js : List Int) : PyData.eqv (.list (is.map .int)) (.list (js.map .int)) = decide (is = js) := by
  rw [eqv_dec (by rw [plainD]; exact plainA_ints is) (by rw [plainD]; exact plainA_ints js)]
  simp [ints_inj]
/-! data of values -/
theorem mapO_ints (n : Nat) (G : GH) (is : List Int) : mapO (toD (n + 1) G) (is.map W.int) = some (is.map PyData.int) := by
  induction is with
  | nil => rfl
  | cons i is ih => unfold mapO; rw [List.map_cons]; simp [ih]; rfl
theorem toDT_tmpI (G : GH) (is : List Int) : toDT G (.tmp (is.map W.int)) = some (.list (is.map PyData.int)) := by
  have e : mapO (toD 8 G) (is.map W.int) = some (is.map PyData.int) := mapO_ints 7 G is
  unfold toDT
  simp [e]
theorem toDT_locI {G : GH} {n : Nat} {is : List Int} (h : G[n]? = some (.lst (is.map W.int))) : toDT G (.val (.loc n)) = some (.list (is.map PyData.int)) := by
  have e : mapO (toD 8 G) (is.map W.int) = some (is.map PyData.int) := mapO_ints 7 G is
  unfold toDT toD
  simp [h, e]
@[simp] theorem toDT_int (G : GH) (i : Int) : toDT G (.val (.int i)) = some (.int i) := (rfl)
@[simp] theorem toDT_bl (G : GH) (i : Bool) : toDT G (.val (.bl i)) = some (.bool i) := (rfl)
@[simp] theorem toDT_non (G : GH) : toDT G (.val .non) = some .none := (rfl)
theorem blsW_map (bs : List Bool) : blsW (bs.map W.bl) = some bs := by
  induction bs with
  | nil => rfl
  | cons b bs ih => unfold blsW; rw [List.map_cons]; simp [ih]
theorem intsW_map (bs : List Int) : intsW (bs.map W.int) = some bs := by
  induction bs with
  | nil => rfl
  | cons b bs ih => unfold intsW; rw [List.map_cons]; simp [ih]
theorem fAll_tmp (bs : List Bool) (G : GH) : fAll [.tmp (bs.map W.bl)] G = .ok (.val (.bl (bs.all id))) G := by
  unfold fAll
  simp [blsW_map]
theorem fAny_tmp (bs : List Bool) (G : GH) : fAny [.tmp (bs.map W.bl)] G = .ok (.val (.bl (bs.any id))) G := by
  unfold fAny
  simp [blsW_map]
theorem fSum_tmp (is : List Int) (G : GH) : fSum [.tmp (is.map W.int)] G = .ok (.val (.int is.sum)) G := by
  unfold fSum
  simp [intsW_map]
theorem fAll_yes {α : Type} (ws : List α) (G : GH) : fAll [.tmp (ws.map fun _ => W.bl true)] G = .ok (.val (.bl true)) G := by
  have h := fAll_tmp (ws.map fun _ => true) G
  rw [List.map_map] at h
  rw [show (ws.map fun _ => W.bl true) = ws.map (W.bl ∘ fun _ => true) from rfl, h]
  simp
theorem fIn_ints {G : GH} {n : Nat} {is : List Int} (i : Int) (h : G[n]? = some (.lst (is.map W.int))) : fIn (.val (.int i)) (.val (.loc n)) G = .ok (.val (.bl (decide (i ∈ is)))) G := by
  unfold fIn inB
  simp only [toDT_int, toDT_locI h]
  have e : ((is.map PyData.int).any fun z => PyData.eqv z (.int i)) = decide (i ∈ is) := by
    clear h
    induction is with
    | nil => simp
    | cons j js ih =>
      rw [List.map_cons, List.any_cons, ih, show PyData.eqv (.int j) (.int i) = (j == i) by rw [PyData.eqv]]
      by_cases hj : j = i
      · subst hj; simp
      · have hj2 : ¬ i = j := fun e => hj e.symm
        simp [hj, hj2]
  rw [e]
@[simp] theorem fLen_tmp (ws : List W) (G : GH) : fLen [.tmp ws] G = .ok (.val (.int ws.length)) G := (rfl)
theorem fLen_loc {G : GH} {n : Nat} {ws : List W} (h : G[n]? = some (.lst ws)) : fLen [.val (.loc n)] G = .ok (.val (.int ws.length)) G := by
  unfold fLen
  simp [h]
end Sy
set_option Elab.async false
set_option linter.all false
set_option maxRecDepth 100000
set_option maxHeartbeats 4000000
namespace Sy
open PySem PySem.Spec PyProof.Rows L2
/-! steps of a suite -/
theorem seq_nx {a b : MS} {τ τ1 : Sl} {G G1 : GH} (h : a τ G = .nx τ1 G1) : sSeq a b τ G = b τ1 G1 := by
  rw [sSeq_at, h]; rfl
theorem seq_rt {a b : MS} {τ : Sl} {w : W} {G G1 : GH} (h : a τ G = .rt w G1) : sSeq a b τ G = .rt w G1 := by
  rw [sSeq_at, h]; rfl
theorem seq_ex {a b : MS} {τ τ1 : Sl} {c : Nat} {fs} {G G1 : GH} (h : a τ G = .ex c fs τ1 G1) : sSeq a b τ G = .ex c fs τ1 G1 := by
  rw [sSeq_at, h]; rfl
theorem seq_no {c : M Bool} {a b : MS} {τ : Sl} {G G1 : GH} (h : c τ G = .ok false G1) : sSeq (sIf c a sNext) b τ G = b τ G1 := by
  refine seq_nx ?_
  rw [sIf_at, h]; rfl
theorem seq_yes {c : M Bool} {a b d : MS} {τ : Sl} {G G1 : GH} (h : c τ G = .ok true G1) : sSeq (sIf c a d) b τ G = sSeq a b τ G1 := by
  rw [sSeq_at, sSeq_at, sIf_at, h]; rfl
theorem seq_else {c : M Bool} {a b d : MS} {τ : Sl} {G G1 : GH} (h : c τ G = .ok false G1) : sSeq (sIf c a d) b τ G = sSeq d b τ G1 := by
  rw [sSeq_at, sSeq_at, sIf_at, h]; rfl
theorem if_no {c : M Bool} {a : MS} {τ : Sl} {G G1 : GH} (h : c τ G = .ok false G1) : sIf c a sNext τ G = .nx τ G1 := by
  rw [sIf_at, h]; rfl
theorem if_yes {c : M Bool} {a d : MS} {τ : Sl} {G G1 : GH} (h : c τ G = .ok true G1) : sIf c a d τ G = a τ G1 := by
  rw [sIf_at, h]; rfl
theorem if_else {c : M Bool} {a d : MS} {τ : Sl} {G G1 : GH} (h : c τ G = .ok false G1) : sIf c a d τ G = d τ G1 := by
  rw [sIf_at, h]; rfl
theorem try_nx {xt : XTab} {C i : Nat} {mb : MS} {ms : Nat → Addr → MS} {τ τ1 : Sl} {G G1 : GH} (h : mb τ G = .nx τ1 G1) : sTry xt C i mb ms τ G = .nx τ1 G1 := by
  unfold sTry; rw [h]
theorem try_rt {xt : XTab} {C i : Nat} {mb : MS} {ms : Nat → Addr → MS} {τ : Sl} {w : W} {G G1 : GH} (h : mb τ G = .rt w G1) : sTry xt C i mb ms τ G = .rt w G1 := by
  unfold sTry; rw [h]
theorem try_ex {xt : XTab} {C i c : Nat} {mb : MS} {ms : Nat → Addr → MS} {τ τ1 : Sl} {G G1 : GH} {r : RS} (h : mb τ G = .ex c [] τ1 G1) (hx : xsub xt c C = some true) (hs : ∀ a, (ms c a (τ1.set i (some (.exn c a))) G1).unS i = r) : sTry xt C i mb ms τ G = r := by
  unfold sTry; rw [h]
  simp only [hx]
  exact pick_eq hs
theorem mDef_ex {n : Nat} {b : MS} {ws : List W} {G : GH} (τ : Sl) {τ1 : Sl} {c : Nat} {fs} {G' : GH} (h : b τ G = .ex c fs τ1 G') (hτ : ws.map some ++ List.replicate (n - ws.length) none = τ := by rfl) : mDef n b ws G = .ex c fs G' := by
  rw [mDef_fin, hτ, h]; rfl
theorem mDef_nx {n : Nat} {b : MS} {ws : List W} {G : GH} (τ : Sl) {τ1 : Sl} {G' : GH} (h : b τ G = .nx τ1 G') (hτ : ws.map some ++ List.replicate (n - ws.length) none = τ := by rfl) : mDef n b ws G = .ok .non G' := by
  rw [mDef_fin, hτ, h]; rfl
@[simp] theorem sRaise_at (c : Nat) (τ : Sl) (G : GH) : sRaise c τ G = .ex c [] τ G := (rfl)
@[simp] theorem mDict0_at (τ : Sl) (G : GH) : mDict0 τ G = .ok (.val (.loc G.length)) (G ++ [.dK []]) := (rfl)
theorem fIsE_ok {it : ITab} {c : Nat} {a : Addr} {k : W} {b : Bool} {G : GH} (h : (ckW k).bind (isub it c) = some b) : fIsE it c a [.val (.exn c a), .val k] G = .ok (.val (.bl b)) G := by
  unfold fIsE
  simp [h]
/-! types -/
def fIsiR (o : Option Bool) (G : GH) : R T := match o with
  | some b => .ok (.val (.bl b)) G
  | none => .bad
theorem fIsi_at (t : T) (b : String) (G : GH) : fIsi [t, .val (.ty b)] G = fIsiR ((tyOf G t).bind fun a => subTy a b) G := by
  show (match (tyOf G t).bind fun a => subTy a b with
    | some r => R.ok (T.val (W.bl r)) G
    | none => R.bad) = _
  unfold fIsiR
  cases (tyOf G t).bind fun a => subTy a b <;> rfl
theorem tyOf_lst {G : GH} {n : Nat} {ws : List W} (h : G[n]? = some (.lst ws)) : tyOf G (.val (.loc n)) = some "list" := by
  unfold tyOf; simp [h]
theorem tyOf_dK {G : GH} {n : Nat} {ws} (h : G[n]? = some (.dK ws)) : tyOf G (.val (.loc n)) = some "dict" := by
  unfold tyOf; simp [h]
theorem isi_of {G : GH} {t : T} {a b : String} {r : Bool} (h : tyOf G t = some a) (hs : subTy a b = some r) : fIsi [t, .val (.ty b)] G = .ok (.val (.bl r)) G := by
  rw [fIsi_at, h, Option.bind_some, hs]; rfl
@[simp] theorem isi_int_int (i : Int) (G : GH) : fIsi [.val (.int i), .val (.ty "int")] G = .ok (.val (.bl true)) G := isi_of (a := "int") rfl (by decide)
@[simp] theorem isi_int_bool (i : Int) (G : GH) : fIsi [.val (.int i), .val (.ty "bool")] G = .ok (.val (.bl false)) G := isi_of (a := "int") rfl (by decide)
@[simp] theorem isi_int_list (i : Int) (G : GH) : fIsi [.val (.int i), .val (.ty "list")] G = .ok (.val (.bl false)) G := isi_of (a := "int") rfl (by decide)
@[simp] theorem isi_int_tuple (i : Int) (G : GH) : fIsi [.val (.int i), .val (.ty "tuple")] G = .ok (.val (.bl false)) G := isi_of (a := "int") rfl (by decide)
@[simp] theorem isi_bl_int (i : Bool) (G : GH) : fIsi [.val (.bl i), .val (.ty "int")] G = .ok (.val (.bl true)) G := isi_of (a := "bool") rfl (by decide)
@[simp] theorem isi_bl_bool (i : Bool) (G : GH) : fIsi [.val (.bl i), .val (.ty "bool")] G = .ok (.val (.bl true)) G := isi_of (a := "bool") rfl (by decide)
@[simp] theorem isi_non_int (G : GH) : fIsi [.val .non, .val (.ty "int")] G = .ok (.val (.bl false)) G := isi_of (a := "NoneType") rfl (by decide)
@[simp] theorem isi_non_list (G : GH) : fIsi [.val .non, .val (.ty "list")] G = .ok (.val (.bl false)) G := isi_of (a := "NoneType") rfl (by decide)
@[simp] theorem isi_str_int (x : Str) (G : GH) : fIsi [.val (.str x), .val (.ty "int")] G = .ok (.val (.bl false)) G := isi_of (a := "str") rfl (by decide)
@[simp] theorem isi_str_list (x : Str) (G : GH) : fIsi [.val (.str x), .val (.ty "list")] G = .ok (.val (.bl false)) G := isi_of (a := "str") rfl (by decide)
@[simp] theorem isi_tup_int (x : List W) (G : GH) : fIsi [.val (.tup x), .val (.ty "int")] G = .ok (.val (.bl false)) G := isi_of (a := "tuple") rfl (by decide)
@[simp] theorem isi_tup_list (x : List W) (G : GH) : fIsi [.val (.tup x), .val (.ty "list")] G = .ok (.val (.bl false)) G := isi_of (a := "tuple") rfl (by decide)
@[simp] theorem isi_tup_tuple (x : List W) (G : GH) : fIsi [.val (.tup x), .val (.ty "tuple")] G = .ok (.val (.bl true)) G := isi_of (a := "tuple") rfl (by decide)
theorem isi_lst_list {G : GH} {n : Nat} {ws : List W} (h : G[n]? = some (.lst ws)) : fIsi [.val (.loc n), .val (.ty "list")] G = .ok (.val (.bl true)) G := isi_of (tyOf_lst h) (by decide)
theorem isi_lst_int {G : GH} {n : Nat} {ws : List W} (h : G[n]? = some (.lst ws)) : fIsi [.val (.loc n), .val (.ty "int")] G = .ok (.val (.bl false)) G := isi_of (tyOf_lst h) (by decide)
/-! lists of ints, lists of places -/
abbrev iW (is : List Int) : List W := is.map W.int
def locs (n k : Nat) : List W := (List.range k).map fun i => W.loc (n + i)
@[simp] theorem locs_len (n k : Nat) : (locs n k).length = k := by simp [locs]
theorem locs_succ (n k : Nat) : locs n (k + 1) = .loc n :: locs (n + 1) k := by
  unfold locs
  rw [List.range_succ_eq_map, List.map_cons, List.map_map]
  congr 1
  apply List.map_congr_left
  intro i _
  show W.loc (n + (i + 1)) = W.loc (n + 1 + i)
  congr 1; omega
/-! pictures: a list of lists -/
structure RowsAt (G : GH) (n : Nat) (ms : List Nat) (rows : List (List W)) : Prop where
  top : G[n]? = some (.lst (ms.map W.loc))
  row : Paired (fun m r => G[m]? = some (.lst r)) ms rows
theorem get_mono {G : GH} {n : Nat} {o : GO} (h : G[n]? = some o) (xs : GH) : (G ++ xs)[n]? = some o := by
  rw [List.getElem?_append_left (List.getElem?_eq_some_iff.mp h).1]; exact h
theorem pair_imp {α β : Type} {P Q : α → β → Prop} {xs : List α} {ys : List β} (h : Paired P xs ys) (f : ∀ x y, P x y → Q x y) : Paired Q xs ys := paired_imp h f
theorem RowsAt.mono {G : GH} {n : Nat} {ms : List Nat} {rows : List (List W)} (h : RowsAt G n ms rows) (xs : GH) : RowsAt (G ++ xs) n ms rows :=
  ⟨get_mono h.top xs, paired_imp h.row fun _ _ e => get_mono e xs⟩
theorem RowsAt.len {G : GH} {n : Nat} {ms : List Nat} {rows : List (List W)} (h : RowsAt G n ms rows) : ms.length = rows.length := h.row.length
theorem paired_mem {α β : Type} {P : α → β → Prop} {xs : List α} {ys : List β} (h : Paired P xs ys) : ∀ x ∈ xs, ∃ y ∈ ys, P x y := by
  induction h with
  | nil => simp
  | cons q t ih =>
    intro x hx
    rcases List.mem_cons.mp hx with rfl | hx
    · exact ⟨_, List.mem_cons_self, q⟩
    · obtain ⟨y, h1, h2⟩ := ih x hx
      exact ⟨y, List.mem_cons_of_mem _ h1, h2⟩
theorem paired_nth {α β : Type} {P : α → β → Prop} {xs : List α} {ys : List β} (h : Paired P xs ys) {i : Nat} {y : β} (e : ys[i]? = some y) : ∃ x, xs[i]? = some x ∧ P x y := by
  have hl : i < xs.length := by rw [h.length]; exact (List.getElem?_eq_some_iff.mp e).1
  exact ⟨_, List.getElem?_eq_getElem hl, paired_get h i _ _ (List.getElem?_eq_getElem hl) e⟩
/-- rows as they are laid: the rows, then the list of them -/
def laidR (G : GH) (rows : List (List W)) : GH := G ++ (rows.map GO.lst ++ [.lst (locs G.length rows.length)])
def places (n k : Nat) : List Nat := (List.range k).map (n + ·)
theorem places_loc (n k : Nat) : (places n k).map W.loc = locs n k := by
  unfold places locs
  rw [List.map_map]; rfl
theorem places_nodup (n k : Nat) : (places n k).Nodup := by
  unfold places
  exact List.Pairwise.map _ (fun a b (h : a ≠ b) e => h (by omega)) List.nodup_range
theorem paired_of {α β : Type} {P : α → β → Prop} : ∀ {xs : List α} {ys : List β}, xs.length = ys.length → (∀ (i : Nat) x y, xs[i]? = some x → ys[i]? = some y → P x y) → Paired P xs ys
  | [], [], _, _ => .nil
  | [], _ :: _, h, _ => by simp at h
  | _ :: _, [], h, _ => by simp at h
  | x :: xs, y :: ys, h, f => .cons (f 0 x y rfl rfl) (paired_of (by simpa using h) fun i a b e1 e2 => f (i + 1) a b (by simpa using e1) (by simpa using e2))
theorem laidR_rows (G : GH) (rows : List (List W)) : RowsAt (laidR G rows) (G.length + rows.length) (places G.length rows.length) rows := by
  unfold laidR
  refine ⟨?_, paired_of (by simp [places]) fun i m r e1 e2 => ?_⟩
  · rw [places_loc, get_topk, List.getElem?_append_right (by simp)]
    simp
  · have hl := (List.getElem?_eq_some_iff.mp e2).1
    unfold places at e1
    rw [List.getElem?_map, List.getElem?_range hl] at e1
    cases e1
    show (G ++ _)[G.length + i]? = _
    rw [get_topk, List.getElem?_append_left (by simpa using hl), List.getElem?_map, e2]; rfl
/-! data of rows of ints -/
abbrev pD (pic : List (List Int)) : PyData := .list (pic.map fun r => .list (r.map PyData.int))
theorem toD_ints (n : Nat) {G : GH} {m : Nat} {is : List Int} (h : G[m]? = some (.lst (iW is))) : toD (n + 2) G (.loc m) = some (.list (is.map PyData.int)) := by
  have e := mapO_ints n G is
  unfold toD
  simp [h, e]
theorem mapO_rows (n : Nat) {G : GH} {ms : List Nat} {pic : List (List Int)} (h : Paired (fun m r => G[m]? = some (.lst r)) ms (pic.map iW)) : mapO (toD (n + 2) G) (ms.map W.loc) = some (pic.map fun r => .list (r.map PyData.int)) := by
  induction pic generalizing ms with
  | nil => cases ms with
    | nil => rfl
    | cons m ms => exact absurd h.length (by simp)
  | cons r pic ih =>
    cases ms with
    | nil => exact absurd h.length (by simp)
    | cons m ms =>
      have h1 : G[m]? = some (.lst (iW r)) := by cases h; assumption
      have h2 : Paired (fun m r => G[m]? = some (.lst r)) ms (pic.map iW) := by cases h; assumption
      rw [List.map_cons, List.map_cons]
      unfold mapO
      rw [toD_ints n h1, ih h2]; rfl
theorem RowsAt.dat {G : GH} {n : Nat} {ms : List Nat} {pic : List (List Int)} (h : RowsAt G n ms (pic.map iW)) : toDT G (.val (.loc n)) = some (pD pic) := by
  have e := mapO_rows 6 h.row
  unfold toDT toD
  simp [h.top, e]
theorem plain_pD (pic : List (List Int)) : plainD (pD pic) = true := by
  rw [plainD]
  induction pic with
  | nil => rfl
  | cons r pic ih =>
    rw [List.map_cons, plainA, ih, plainD, plainA_ints]; rfl
theorem pD_inj {p q : List (List Int)} : pD p = pD q ↔ p = q := by
  constructor
  · intro h
    have h2 : (p.map fun r => PyData.list (r.map PyData.int)) = q.map fun r => PyData.list (r.map PyData.int) := by
      injection h
    induction p generalizing q with
    | nil => cases q <;> simp at h2 ⊢
    | cons r p ih =>
      cases q with
      | nil => simp at h2
      | cons s q =>
        rw [List.map_cons, List.map_cons] at h2
        injection h2 with h3 h4
        injection h3 with h5
        rw [ints_inj.mp h5, ih (by rw [pD, pD, h4]) h4]
  · intro h; rw [h]
theorem eqv_pD (p q : List (List Int)) : PyData.eqv (pD p) (pD q) = decide (p = q) := by
  rw [eqv_dec (plain_pD p) (plain_pD q)]
  simp only [pD_inj]
theorem RowsAt.eq {G : GH} {n m : Nat} {ms ks : List Nat} {p q : List (List Int)} (h : RowsAt G n ms (p.map iW)) (h2 : RowsAt G m ks (q.map iW)) : fEq (.val (.loc n)) (.val (.loc m)) G = .ok (.val (.bl (decide (p = q)))) G := by
  rw [fEq_data h.dat h2.dat, eqv_pD]
theorem RowsAt.ne {G : GH} {n m : Nat} {ms ks : List Nat} {p q : List (List Int)} (h : RowsAt G n ms (p.map iW)) (h2 : RowsAt G m ks (q.map iW)) : fNe (.val (.loc n)) (.val (.loc m)) G = .ok (.val (.bl (!decide (p = q)))) G := by
  rw [fNe_data h.dat h2.dat, eqv_pD]
theorem eq_ints {G : GH} {n m : Nat} {p q : List Int} (h : G[n]? = some (.lst (iW p))) (h2 : G[m]? = some (.lst (iW q))) : fEq (.val (.loc n)) (.val (.loc m)) G = .ok (.val (.bl (decide (p = q)))) G := by
  rw [fEq_data (toDT_locI h) (toDT_locI h2), eqv_ints]
theorem ne_ints {G : GH} {n m : Nat} {p q : List Int} (h : G[n]? = some (.lst (iW p))) (h2 : G[m]? = some (.lst (iW q))) : fNe (.val (.loc n)) (.val (.loc m)) G = .ok (.val (.bl (!decide (p = q)))) G := by
  rw [fNe_data (toDT_locI h) (toDT_locI h2), eqv_ints]
/-! comprehensions that lay a list each turn -/
theorem compF_alloc {src : Src} {g : MG} {c : M Bool} {e : M T} {τ : Sl} {G : GH} {ws : List W} (f : W → List W) (hs : ∀ xs, still src (G ++ xs) = true)
    (h : ∀ w ∈ ws, ∀ xs, ∃ τ1, g w τ = some τ1 ∧ c τ1 (G ++ xs) = .ok true (G ++ xs) ∧ e τ1 (G ++ xs) = .ok (.tmp (f w)) (G ++ xs)) :
    compF src g c e τ ws G = .ok (locs G.length ws.length) (G ++ ws.map fun w => .lst (f w)) := by
  have key : ∀ (ws' : List W) (xs : GH), (∀ w ∈ ws', w ∈ ws) → compF src g c e τ ws' (G ++ xs) = .ok (locs (G ++ xs).length ws'.length) (G ++ xs ++ ws'.map fun w => .lst (f w)) := by
    intro ws'
    induction ws' with
    | nil => intro xs _; unfold compF; rw [hs xs]; simp [locs]
    | cons w ws' ih =>
      intro xs hw
      obtain ⟨τ1, h1, h2, h3⟩ := h w (hw w List.mem_cons_self) xs
      unfold compF
      have h4 : mF e τ1 (G ++ xs) = .ok (.loc (G ++ xs).length) (G ++ (xs ++ [.lst (f w)])) := by
        rw [mF_at, h3, R.bind_ok, force_tmp, List.append_assoc]
      have h5 := ih (xs ++ [.lst (f w)]) fun u hu => hw u (List.mem_cons_of_mem _ hu)
      rw [hs xs, h1]
      simp only [if_true, h2, R.noEx, R.bind_ok, h4, h5]
      congr 1
      · rw [List.length_cons, locs_succ]
        simp
        congr 1
      · simp
  have := key ws [] fun _ h => h
  simpa using this
/-- .. with a test, no list laid -/
theorem compF_filter {src : Src} {g : MG} {c : M Bool} {e : M T} {τ : Sl} {G : GH} {ws : List W} (p : W → Bool) (f : W → W) (hs : still src G = true)
    (h : ∀ w ∈ ws, ∃ τ1, g w τ = some τ1 ∧ c τ1 G = .ok (p w) G ∧ (p w = true → (e τ1 G).bind force = .ok (f w) G)) : compF src g c e τ ws G = .ok ((ws.filter p).map f) G := by
  induction ws with
  | nil => unfold compF; rw [hs]; rfl
  | cons w ws ih =>
    obtain ⟨τ1, h1, h2, h3⟩ := h w List.mem_cons_self
    have ih' := ih fun u hu => h u (List.mem_cons_of_mem _ hu)
    unfold compF
    rw [hs, h1]
    cases e : p w with
    | true =>
      have h3' : mF _ τ1 G = .ok (f w) G := h3 e
      rw [List.filter_cons, e]
      simp only [if_true, h2, e, R.noEx, R.bind_ok, h3', ih']
      rfl
    | false =>
      rw [List.filter_cons, e]
      simp only [if_true, h2, e, R.noEx, R.bind_ok, ih']
      rfl
theorem compF_paired {β : Type} {src : Src} {g : MG} {c : M Bool} {e : M T} {τ : Sl} {G : GH} {ws : List W} {ys : List β} (F : β → W) (hs : still src G = true)
    (hp : Paired (fun w y => ∃ τ1, g w τ = some τ1 ∧ c τ1 G = .ok true G ∧ (e τ1 G).bind force = .ok (F y) G) ws ys) : compF src g c e τ ws G = .ok (ys.map F) G := by
  induction hp with
  | nil => unfold compF; rw [hs]; rfl
  | cons q t ih =>
    obtain ⟨τ1, h1, h2, h3⟩ := q
    unfold compF
    have h3' : mF e τ1 G = .ok (F _) G := h3
    rw [hs, h1]
    simp only [if_true, h2, R.noEx, R.bind_ok, h3', ih]
    rfl
theorem paired_map {α β γ : Type} {P : γ → β → Prop} {f : α → γ} {xs : List α} {ys : List β} (h : Paired (fun x y => P (f x) y) xs ys) : Paired P (xs.map f) ys := by
  induction h with
  | nil => exact .nil
  | cons q t ih => exact .cons q ih
theorem compF_allocP {β : Type} {src : Src} {g : MG} {c : M Bool} {e : M T} {τ : Sl} {G : GH} {ws : List W} {ys : List β} (F : β → List W) (hs : ∀ xs, still src (G ++ xs) = true)
    (hp : Paired (fun w y => ∀ xs, ∃ τ1, g w τ = some τ1 ∧ c τ1 (G ++ xs) = .ok true (G ++ xs) ∧ e τ1 (G ++ xs) = .ok (.tmp (F y)) (G ++ xs)) ws ys) :
    compF src g c e τ ws G = .ok (locs G.length ys.length) (G ++ ys.map fun y => .lst (F y)) := by
  have key : ∀ (ws' : List W) (ys' : List β) (xs : GH), Paired (fun w y => ∀ xs, ∃ τ1, g w τ = some τ1 ∧ c τ1 (G ++ xs) = .ok true (G ++ xs) ∧ e τ1 (G ++ xs) = .ok (.tmp (F y)) (G ++ xs)) ws' ys' →
      compF src g c e τ ws' (G ++ xs) = .ok (locs (G ++ xs).length ys'.length) (G ++ xs ++ ys'.map fun y => .lst (F y)) := by
    intro ws' ys' xs h
    induction h generalizing xs with
    | nil => unfold compF; rw [hs xs]; simp [locs]
    | @cons w y ws' ys' q t ih =>
      obtain ⟨τ1, h1, h2, h3⟩ := q xs
      unfold compF
      have h4 : mF e τ1 (G ++ xs) = .ok (.loc (G ++ xs).length) (G ++ (xs ++ [.lst (F y)])) := by
        rw [mF_at, h3, R.bind_ok, force_tmp, List.append_assoc]
      have h5 := ih (xs ++ [.lst (F y)])
      rw [hs xs, h1]
      simp only [if_true, h2, R.noEx, R.bind_ok, h4, h5]
      congr 1
      · rw [List.length_cons, locs_succ]
        simp
        congr 1
      · simp
  have := key ws ys [] hp
  simpa using this
theorem fList_loc {G : GH} {n : Nat} {ws : List W} (h : G[n]? = some (.lst ws)) : fList [.val (.loc n)] G = .ok (.tmp ws) G := by
  unfold fList
  simp [h]
theorem fAug_loc {G : GH} {n m : Nat} {us ws : List W} (h : G[n]? = some (.lst us)) (h2 : G[m]? = some (.lst ws)) (hl : us.length + ws.length ≤ 16777216) :
    fAugAdd (.val (.loc n)) (.val (.loc m)) G = .ok (.val (.loc n)) (G.set n (.lst (us ++ ws))) := by
  unfold fAugAdd
  simp [h, h2, hl]
theorem fPop_ok {G : GH} {n : Nat} {us : List W} {w : W} (h : G[n]? = some (.lst (us ++ [w]))) : fPop (.val (.loc n)) [] G = .ok (.val w) (G.set n (.lst us)) := by
  unfold fPop
  simp [h]
theorem iterZ_loc {G : GH} {n m : Nat} {ws us : List W} (h : G[n]? = some (.lst ws)) (h2 : G[m]? = some (.lst us)) : iterZ [.val (.loc n), .val (.loc m)] G = .ok (zipW ws us, [(n, ws), (m, us)]) G := by
  unfold iterZ srcOf
  simp [h, h2]
theorem still_two {n m : Nat} {ws us : List W} {G : GH} (h : G[n]? = some (.lst ws)) (h2 : G[m]? = some (.lst us)) : still [(n, ws), (m, us)] G = true := still_iff.mpr fun p hp => by
  simp at hp
  rcases hp with rfl | rfl
  · simp [h]
  · simp [h2]
/-! changes in a heap by place -/
def bump (w : W) : Option GO → Option GO
  | some (.lst r) => some (.lst (r ++ [w]))
  | o => o
/-- G' is G, but for the lists at some places that have w behind -/
def Bumped (w : W) (G : GH) (ms : List Nat) (G' : GH) : Prop := ∀ j, G'[j]? = if j ∈ ms then bump w G[j]? else G[j]?
theorem cut_nat (ws : List W) (lo hi : Nat) : cutW ws (some (lo : Int)) (some (hi : Int)) = (ws.drop lo).take (hi - lo) := by
  unfold cutW
  rw [HT.sIx_nat, HT.sIx_nat]
  apply List.ext_getElem?
  intro i
  rw [List.getElem?_take, List.getElem?_take, List.getElem?_drop, List.getElem?_drop]
  by_cases h : lo ≤ ws.length
  · rw [Nat.min_eq_left h]
    by_cases h2 : i < hi - lo
    · rw [if_pos h2]
      by_cases h3 : i < min hi ws.length - lo
      · rw [if_pos h3]
      · rw [if_neg h3, List.getElem?_eq_none (by omega)]
    · rw [if_neg h2, if_neg (by omega)]
  · rw [Nat.min_eq_right (show ws.length ≤ lo by omega), if_neg (by omega)]
    by_cases h2 : i < hi - lo
    · rw [if_pos h2, List.getElem?_eq_none (by omega)]
    · rw [if_neg h2]
theorem cut_to (ws : List W) (hi : Nat) : cutW ws none (some (hi : Int)) = ws.take hi := by
  have := cut_nat ws 0 hi
  unfold cutW at this ⊢
  rw [HT.sIx_nat, HT.sIx_nat] at this
  rw [HT.sIx_none, HT.sIx_nat]
  simpa using this
theorem cut_from (ws : List W) (lo : Nat) : cutW ws (some (lo : Int)) none = ws.drop lo := by
  unfold cutW
  rw [HT.sIx_nat, HT.sIx_none]
  by_cases h : lo ≤ ws.length
  · rw [Nat.min_eq_left h, List.take_of_length_le (by rw [List.length_drop]; omega)]
  · rw [Nat.min_eq_right (show ws.length ≤ lo by omega), List.drop_eq_nil_of_le (by omega), List.drop_eq_nil_of_le (by omega)]; simp
theorem fSl_loc {G : GH} {n : Nat} {ws : List W} (h : G[n]? = some (.lst ws)) (lo hi : Option Int) : fSl (.val (.loc n)) lo hi G = .ok (.tmp (cutW ws lo hi)) G := by
  unfold fSl
  simp [h]
theorem eq_same {G : GH} {x y : T} {d : PyData} (h1 : toDT G x = some d) (h2 : toDT G y = some d) (nd : noDict d = true) : fEq x y G = .ok (.val (.bl true)) G := by
  rw [fEq_data h1 h2, eqv_self d nd]
theorem ne_same {G : GH} {x y : T} {d : PyData} (h1 : toDT G x = some d) (h2 : toDT G y = some d) (nd : noDict d = true) : fNe x y G = .ok (.val (.bl false)) G := by
  rw [fNe_data h1 h2, eqv_self d nd]; rfl
theorem RowsAt.set {G : GH} {n j : Nat} {ms : List Nat} {rows : List (List W)} {o : GO} (h : RowsAt G n ms rows) (hn : n ≠ j) (hm : j ∉ ms) : RowsAt (G.set j o) n ms rows := by
  have e : ∀ i, i ≠ j → (G.set j o)[i]? = G[i]? := fun i hi => List.getElem?_set_ne fun z => hi z.symm
  refine ⟨by rw [e n hn]; exact h.top, paired_of h.len fun i m r e1 e2 => ?_⟩
  rw [e m fun z => hm (z ▸ List.mem_of_getElem? e1)]
  exact paired_get h.row i m r e1 e2
/-- parts of a list, k each -/
def chunks {α : Type} (k high : Nat) (is : List α) : List (List α) := (List.range high).map fun y => (is.drop (y * k)).take k
theorem chunks_len {α : Type} (k high : Nat) (is : List α) : (chunks k high is).length = high := by simp [chunks]
theorem chunks_map {α β : Type} (f : α → β) (k high : Nat) (is : List α) : chunks k high (is.map f) = (chunks k high is).map fun r => r.map f := by
  unfold chunks
  rw [List.map_map]
  apply List.map_congr_left
  intro y _
  simp [List.map_take, List.map_drop]
theorem chunks_row {α : Type} {k high : Nat} {is : List α} (h : is.length = high * k) : ∀ r ∈ chunks k high is, r.length = k := by
  intro r hr
  obtain ⟨y, hy, rfl⟩ := List.mem_map.mp hr
  rw [List.mem_range] at hy
  rw [List.length_take, List.length_drop, h]
  have : (y + 1) * k ≤ high * k := Nat.mul_le_mul_right k hy
  rw [Nat.add_mul, Nat.one_mul] at this
  omega
theorem chunks_succ {α : Type} (k high : Nat) (is : List α) : chunks k (high + 1) is = chunks k high is ++ [(is.drop (high * k)).take k] := by
  unfold chunks
  rw [List.range_succ, List.map_append]; rfl
theorem chunks_flat {α : Type} (k high : Nat) (is : List α) : (chunks k high is).flatten = is.take (high * k) := by
  induction high with
  | zero => simp [chunks]
  | succ high ih =>
    rw [chunks_succ, List.flatten_append, ih, Nat.add_mul, Nat.one_mul, List.take_add]
    simp
theorem chunks_mem {α : Type} {k high : Nat} {is : List α} {r : List α} (hr : r ∈ chunks k high is) : ∀ c ∈ r, c ∈ is := by
  intro c hc
  obtain ⟨y, _, rfl⟩ := List.mem_map.mp hr
  exact List.mem_of_mem_drop (List.mem_of_mem_take hc)
theorem toD_str {n : Nat} {G : GH} {x : Str} (h : x.cps.all (· < 0x110000) = true) : toD (n + 1) G (.str x) = some (.str x) := by
  unfold toD
  simp only [h, if_true]
@[simp] theorem toD_int (n : Nat) (G : GH) (i : Int) : toD (n + 1) G (.int i) = some (.int i) := (rfl)
@[simp] theorem toD_bl (n : Nat) (G : GH) (i : Bool) : toD (n + 1) G (.bl i) = some (.bool i) := (rfl)
@[simp] theorem toD_non (n : Nat) (G : GH) : toD (n + 1) G .non = some .none := (rfl)
@[simp] theorem toD_tup (n : Nat) (G : GH) (ws : List W) : toD (n + 1) G (.tup ws) = (mapO (toD n G) ws).map .tuple := (rfl)
@[simp] theorem mapO_nil {α β : Type} (f : α → Option β) : mapO f [] = some [] := (rfl)
@[simp] theorem mapO_cons {α β : Type} (f : α → Option β) (x : α) (xs : List α) : mapO f (x :: xs) = (f x).bind fun y => (mapO f xs).bind fun ys => some (y :: ys) := (rfl)
@[simp] theorem toDT_tup (G : GH) (ws : List W) : toDT G (.val (.tup ws)) = (mapO (toD 8 G) ws).map .tuple := (rfl)
theorem toDT_str {G : GH} {x : Str} (h : x.cps.all (· < 0x110000) = true) : toDT G (.val (.str x)) = some (.str x) := toD_str (n := 8) (G := G) h
theorem refused_ok : ("refused" : Str).cps.all (· < 0x110000) = true := by decide +kernel
theorem mapO_mono {α β : Type} {f g : α → Option β} : ∀ {xs : List α} {ys : List β}, (∀ x ∈ xs, ∀ y, f x = some y → g x = some y) → mapO f xs = some ys → mapO g xs = some ys
  | [], _, _, h => h
  | x :: xs, ys, hf, h => by
    unfold mapO at h ⊢
    cases e1 : f x with
    | none => rw [e1] at h; cases h
    | some y =>
      cases e2 : mapO f xs with
      | none => rw [e1, e2] at h; cases h
      | some zs =>
        rw [e1, e2] at h
        rw [hf x List.mem_cons_self y e1, mapO_mono (fun u hu => hf u (List.mem_cons_of_mem _ hu)) e2]
        exact h
theorem mapO_len {α β : Type} {f : α → Option β} : ∀ {xs : List α} {ys : List β}, mapO f xs = some ys → ys.length = xs.length
  | [], _, h => by cases h; rfl
  | x :: xs, ys, h => by
    unfold mapO at h
    cases e1 : f x with
    | none => rw [e1] at h; cases h
    | some y =>
      cases e2 : mapO f xs with
      | none => rw [e1, e2] at h; cases h
      | some zs =>
        rw [e1, e2] at h
        cases h
        rw [List.length_cons, List.length_cons, mapO_len e2]
theorem mapO_drop {α β : Type} {f : α → Option β} : ∀ (k : Nat) {xs : List α} {ys : List β}, mapO f xs = some ys → mapO f (xs.drop k) = some (ys.drop k)
  | 0, _, _, h => h
  | k + 1, [], _, h => by cases h; rfl
  | k + 1, x :: xs, ys, h => by
    unfold mapO at h
    cases e1 : f x with
    | none => rw [e1] at h; cases h
    | some y =>
      cases e2 : mapO f xs with
      | none => rw [e1, e2] at h; cases h
      | some zs =>
        rw [e1, e2] at h
        cases h
        exact mapO_drop k e2
theorem mapO_app {α β : Type} {f : α → Option β} : ∀ {xs zs : List α} {ys us : List β}, mapO f xs = some ys → mapO f zs = some us → mapO f (xs ++ zs) = some (ys ++ us)
  | [], _, _, _, h, h2 => by cases h; exact h2
  | x :: xs, zs, ys, us, h, h2 => by
    unfold mapO at h
    cases e1 : f x with
    | none => rw [e1] at h; cases h
    | some y =>
      cases e2 : mapO f xs with
      | none => rw [e1, e2] at h; cases h
      | some ws =>
        rw [e1, e2] at h
        cases h
        rw [List.cons_append]
        unfold mapO
        rw [e1, mapO_app e2 h2]; rfl
theorem mapO_some {α β : Type} {f : α → Option β} : ∀ {xs : List α}, (∀ x ∈ xs, ∃ y, f x = some y) → ∃ ys, mapO f xs = some ys
  | [], _ => ⟨[], rfl⟩
  | x :: xs, h => by
    obtain ⟨y, e⟩ := h x List.mem_cons_self
    obtain ⟨ys, e2⟩ := mapO_some (fun u hu => h u (List.mem_cons_of_mem _ hu))
    exact ⟨y :: ys, by unfold mapO; rw [e, e2]; rfl⟩
theorem toD_mono (xs : GH) {G : GH} : ∀ (n : Nat) (w : W) (d : PyData), toD n G w = some d → toD n (G ++ xs) w = some d
  | 0, _, _, h => by cases h
  | n + 1, w, d, h => by
    cases w with
    | non => exact h
    | bl b => exact h
    | int i => exact h
    | str x => exact h
    | tup ws =>
      rw [toD_tup] at h ⊢
      cases e : mapO (toD n G) ws with
      | none => rw [e] at h; cases h
      | some ds => rw [e] at h; rw [mapO_mono (fun u _ y => toD_mono xs n u y) e]; exact h
    | loc k =>
      have h2 : ((rdw G (.loc k)).bind fun ws => (mapO (toD n G) ws).map PyData.list) = some d := h
      show ((rdw (G ++ xs) (.loc k)).bind fun ws => (mapO (toD n (G ++ xs)) ws).map PyData.list) = some d
      rw [rdw_loc] at h2 ⊢
      cases e0 : G[k]? with
      | none => rw [e0] at h2; cases h2
      | some o =>
        rw [get_mono e0 xs]
        rw [e0] at h2
        cases o with
        | lst ws =>
          have h3 : (mapO (toD n G) ws).map PyData.list = some d := h2
          show (mapO (toD n (G ++ xs)) ws).map PyData.list = some d
          cases e : mapO (toD n G) ws with
          | none => rw [e] at h3; cases h3
          | some ds => rw [e] at h3; rw [mapO_mono (fun u _ y => toD_mono xs n u y) e]; exact h3
        | _ => cases h2
    | frl ws =>
      have h3 : (mapO (toD n G) ws).map PyData.list = some d := h
      show (mapO (toD n (G ++ xs)) ws).map PyData.list = some d
      cases e : mapO (toD n G) ws with
      | none => rw [e] at h3; cases h3
      | some ds => rw [e] at h3; rw [mapO_mono (fun u _ y => toD_mono xs n u y) e]; exact h3
    | ty b => exact h
    | cls b => exact h
    | exn c a => exact h
theorem mapD_mono (xs : GH) {G : GH} {n : Nat} {ws : List W} {ds : List PyData} (h : mapO (toD n G) ws = some ds) : mapO (toD n (G ++ xs)) ws = some ds := mapO_mono (fun u _ y => toD_mono xs n u y) h
theorem fIx_tmp {ws : List W} {k : Nat} {w : W} {G : GH} (h : ws[k]? = some w) : fIx (.tmp ws) (.val (.int k)) G = .ok (.val w) G := by
  unfold fIx
  simp [atI_nat h]
end Sy
set_option Elab.async false
set_option linter.all false
set_option maxRecDepth 100000
set_option maxHeartbeats 4000000
namespace Sy
open PySem PySem.Spec PyProof.Rows L2
theorem mod_nat (z : Int) {m : Nat} (h : 0 < m) : ∃ n : Nat, z % m = n ∧ n < m := by
  have h1 := Int.emod_nonneg z (show (m : Int) ≠ 0 by omega)
  have h2 := Int.emod_lt_of_pos z (show (0 : Int) < m by omega)
  obtain ⟨n, hn⟩ := Int.eq_ofNat_of_zero_le h1
  exact ⟨n, hn, by omega⟩
/-! heaps that grow, the old part staying -/
structure Keeps (G G' : GH) : Prop where
  len : G.length ≤ G'.length
  old : ∀ k, k < G.length → G'[k]? = G[k]?
theorem Keeps.refl (G : GH) : Keeps G G := ⟨Nat.le_refl _, fun _ _ => rfl⟩
theorem Keeps.trans {G G1 G2 : GH} (a : Keeps G G1) (b : Keeps G1 G2) : Keeps G G2 := ⟨Nat.le_trans a.len b.len, fun k hk => by rw [b.old k (Nat.lt_of_lt_of_le hk a.len), a.old k hk]⟩
theorem Keeps.app (G xs : GH) : Keeps G (G ++ xs) := ⟨by simp, fun k hk => List.getElem?_append_left hk⟩
theorem Keeps.two {G G1 : GH} (k : Keeps G G1) (xs : GH) : Keeps G (G1 ++ xs) := k.trans (Keeps.app _ _)
theorem Keeps.set {G G' : GH} (h : Keeps G G') {n : Nat} (hn : G.length ≤ n) (o : GO) : Keeps G (G'.set n o) := ⟨by rw [List.length_set]; exact h.len, fun k hk => by rw [List.getElem?_set_ne (by omega), h.old k hk]⟩
theorem Keeps.get {G G' : GH} (h : Keeps G G') {n : Nat} {o : GO} (e : G[n]? = some o) : G'[n]? = some o := by
  rw [h.old n (List.getElem?_eq_some_iff.mp e).1]
  exact e
theorem RowsAt.keep {G G' : GH} {n : Nat} {ms : List Nat} {rows : List (List W)} (h : RowsAt G n ms rows) (k : Keeps G G') : RowsAt G' n ms rows := ⟨k.get h.top, paired_imp h.row fun _ _ e => k.get e⟩
theorem paired_snoc {α β : Type} {P : α → β → Prop} {as : List α} {bs : List β} {a : α} {b : β} (h : Paired P as bs) (q : P a b) : Paired P (as ++ [a]) (bs ++ [b]) := by
  induction h with
  | nil => exact .cons q .nil
  | cons q t ih => exact .cons q ih
theorem RowsAt.snoc {G : GH} {n m : Nat} {ms : List Nat} {rows : List (List W)} {r : List W} (h : RowsAt G n ms rows) (hn : n ∉ ms) (hm : G[m]? = some (.lst r)) (hmn : m ≠ n) : RowsAt (G.set n (.lst (ms.map W.loc ++ [.loc m]))) n (ms ++ [m]) (rows ++ [r]) := by
  have hl : n < G.length := (List.getElem?_eq_some_iff.mp h.top).1
  refine ⟨by rw [List.getElem?_set_self hl]; simp, ?_⟩
  refine paired_snoc (paired_of h.row.length fun i x y e1 e2 => ?_) (by rw [List.getElem?_set_ne (fun z => hmn z.symm)]; exact hm)
  rw [List.getElem?_set_ne (fun z => hn (by rw [z]; exact List.mem_of_getElem? e1))]
  exact paired_get h.row i x y e1 e2
theorem compF_range {g : MG} {c : M Bool} {e : M T} {τ : Sl} {G : GH} {n : Nat} (F : Nat → W) (h : ∀ i : Nat, i < n → ∃ τ1, g (.int i) τ = some τ1 ∧ c τ1 G = .ok true G ∧ (e τ1 G).bind force = .ok (F i) G) :
    compF [] g c e τ (rangeW 0 n) G = .ok ((List.range n).map F) G := by
  refine compF_paired (F := F) still_nil ?_
  refine paired_of (by simp) fun i w y e1 e2 => ?_
  obtain ⟨hi, rfl⟩ := rangeW_get e1
  rw [List.getElem?_range hi] at e2
  cases e2
  rw [Int.zero_add]
  exact h i hi
theorem fIx_mod {ws : List W} {z : Int} {m : Nat} (h0 : 0 < m) (h : ws.length = m) (G : GH) : ∃ u ∈ ws, fIx (.tmp ws) (.val (.int (z % m))) G = .ok (.val u) G := by
  obtain ⟨k, hk, hk2⟩ := mod_nat z h0
  have e : ws[k]? = some ws[k] := List.getElem?_eq_getElem (by omega)
  exact ⟨ws[k], List.getElem_mem _, by rw [hk]; exact fIx_tmp e⟩
theorem last_get (G : GH) (o : GO) : (G ++ [o])[G.length]? = some o := by simp
theorem forL_nx {src : Src} {g : MG} {b : MS} {w : W} {ws : List W} {τ τ1 τ2 : Sl} {G G2 : GH} (hs : still src G = true) (hg : g w τ = some τ1) (hb : b τ1 G = .nx τ2 G2) : forL src g b (w :: ws) τ G = forL src g b ws τ2 G2 := by
  conv => lhs; unfold forL
  rw [hs, hg]
  simp only [if_true, hb]
theorem forL_rt {src : Src} {g : MG} {b : MS} {w v : W} {ws : List W} {τ τ1 : Sl} {G G2 : GH} (hs : still src G = true) (hg : g w τ = some τ1) (hb : b τ1 G = .rt v G2) : forL src g b (w :: ws) τ G = .rt v G2 := by
  conv => lhs; unfold forL
  rw [hs, hg]
  simp only [if_true, hb]
theorem forL_bk {src : Src} {g : MG} {b : MS} {w : W} {ws : List W} {τ τ1 τ2 : Sl} {G G2 : GH} (hs : still src G = true) (hg : g w τ = some τ1) (hb : b τ1 G = .bk τ2 G2) : forL src g b (w :: ws) τ G = .nx τ2 G2 := by
  conv => lhs; unfold forL
  rw [hs, hg]
  simp only [if_true, hb]
theorem forL_ex {src : Src} {g : MG} {b : MS} {w : W} {ws : List W} {τ τ1 τ2 : Sl} {G G2 : GH} {c : Nat} {fs} (hs : still src G = true) (hg : g w τ = some τ1) (hb : b τ1 G = .ex c fs τ2 G2) : forL src g b (w :: ws) τ G = .ex c fs τ2 G2 := by
  conv => lhs; unfold forL
  rw [hs, hg]
  simp only [if_true, hb]
theorem forL_end {src : Src} {g : MG} {b : MS} {τ : Sl} {G : GH} (hs : still src G = true) : forL src g b [] τ G = .nx τ G := by
  unfold forL
  rw [if_pos hs]
/-- a comprehension with a test, over things that are told by others -/
theorem compF_filterP {β : Type} {src : Src} {g : MG} {c : M Bool} {e : M T} {τ : Sl} {G : GH} {ws : List W} {ys : List β} (p : β → Bool) (F : β → W) (hs : still src G = true)
    (hp : Paired (fun w y => ∃ τ1, g w τ = some τ1 ∧ c τ1 G = .ok (p y) G ∧ (p y = true → (e τ1 G).bind force = .ok (F y) G)) ws ys) : compF src g c e τ ws G = .ok ((ys.filter p).map F) G := by
  induction hp with
  | nil => unfold compF; rw [hs]; rfl
  | @cons w y ws ys q t ih =>
    obtain ⟨τ1, h1, h2, h3⟩ := q
    unfold compF
    rw [hs, h1]
    cases e : p y with
    | true =>
      have h3' : mF _ τ1 G = .ok (F y) G := h3 e
      rw [List.filter_cons, e]
      simp only [if_true, h2, e, R.noEx, R.bind_ok, h3', ih]
      rfl
    | false =>
      rw [List.filter_cons, e]
      simp only [if_true, h2, e, R.noEx, R.bind_ok, ih]
      rfl
/-- a thing put behind a list -/
theorem app_one {i L : Nat} {S : M T} {τ : Sl} {G G1 : GH} {t : W} {us : List W} (hi : τ[i]? = some (some (.loc L))) (hG : G[L]? = some (.lst us)) (hS : (S τ G).bind force = .ok t G1) (hL : G1[L]? = some (.lst us)) (hl : us.length < 1000000) :
    sDrop (mMtF isLst fApp (mVar i) (mCons S mNil)) τ G = .nx τ (G1.set L (.lst (us ++ [t]))) := by
  have h1 := isLst_ok hG
  have h2 := fApp_ok (w := t) hL (by omega)
  rw [sDrop_at, mMtF_at, mVar_at, hi, asO_ok, R.bind_ok, if_pos h1, mCons_at, hS]
  simp only [R.bind_ok, mNil_at, h2, R.toS_ok]
end Sy
set_option Elab.async false
set_option linter.all false
set_option maxRecDepth 100000
set_option maxHeartbeats 4000000
namespace Lk01
open PySem PySem.Spec PyProof.Rows L2 Sy
def topS (i : Nat) : Stmt := PySem.Challenge.pw_cellfolio_k01_cells_and_pictures.main.body.getD i (.Pass ⟨0, 0, 0, 0⟩)
abbrev names : List Str := ["FolioError", "BadPicture", "BadCell", "BadSize"]
abbrev it : ITab := [(1, .own 2, false), (1, .own 1, true), (1, .own 3, false), (1, .ty "ValueError", true), (2, .own 2, true), (2, .own 1, false), (2, .own 3, false), (2, .ty "ValueError", true), (3, .own 2, false), (3, .own 1, false), (3, .own 3, true), (3, .ty "ValueError", true)]
abbrev xt : XTab := [(1, 0, true), (2, 0, true), (3, 0, true)]
structure Tx (K : PySem.W.Frag) (mg : Str → Option Value) (ca : Nat → Addr) : Prop where
  n_ValueError : mg "ValueError" = none
  n_all : mg "all" = none
  n_bool : mg "bool" = none
  n_int : mg "int" = none
  n_isinstance : mg "isinstance" = none
  n_len : mg "len" = none
  n_list : mg "list" = none
  n_range : mg "range" = none
  n_tuple : mg "tuple" = none
  n_zip : mg "zip" = none
  k_MOST_CELL : KonW K mg ca "MOST_CELL" (W.int 15)
  k_MOST_SIDE : KonW K mg ca "MOST_SIDE" (W.int 24)
  g_FolioError : mg "FolioError" = some (.ref (ca 0))
  g_BadPicture : mg "BadPicture" = some (.ref (ca 1))
  g_BadCell : mg "BadCell" = some (.ref (ca 2))
  g_BadSize : mg "BadSize" = some (.ref (ca 3))
  e_BadPicture : ExW K mg ca "BadPicture" 1
  e_BadCell : ExW K mg ca "BadCell" 2
  e_BadSize : ExW K mg ca "BadSize" 3
  E : Exs K ca it xt
abbrev c_MOST_CELL : M T := mC (W.int 15)
abbrev c_MOST_SIDE : M T := mC (W.int 24)
section
variable {P : Program} {w : World} {K : PySem.W.Frag} {mg : Str → Option Value} {base : Heap} {ca : Nat → Addr}
abbrev s_is_among : Stmt := topS 8
abbrev N_is_among : List Str := ["thing", "least", "most"]
abbrev P_is_among : List Str := ["thing", "least", "most"]
theorem sc_is_among : FnScope N_is_among P_is_among (defScope s_is_among) := ⟨rfl, rfl, rfl, by decide +kernel, rfl, by decide +kernel, by decide +kernel⟩
noncomputable def b_is_among : MS :=
  (sRet (mAndV (mBi fIsi (mConsT (mVar 0) (mConsT (mC (.ty "int")) mNilT))) (mAndV (mNotV (mBi fIsi (mConsT (mVar 0) (mConsT (mC (.ty "bool")) mNilT)))) (mChain fLe fLe (mVar 1) (mVar 0) (mVar 2)))))
noncomputable def m_is_among : List W → GH → R W := mDef 3 b_is_among
theorem ok_is_among {f : Addr} {fd : FuncData} {dvs : List V} (F : FunD K "is_among" "is_among" (defArgs s_is_among) (defBody s_is_among) (defScope s_is_among) dvs [] f fd) (T : Tx K mg ca) : FnOk P w K mg base (L2N.CX P w) 1 f fd P_is_among (spM K ca 3 m_is_among) := by
  refine def_okD (N := N_is_among) F sc_is_among fun cdv A outer s H E hr => ?_
  have hu := hr.units
  have hu5 := hu_five hr
  have tk : L2N.Takes (cxOf (L2N.CX P w) P w K mg base N_is_among "is_among" (defScope s_is_among) f cdv A outer s H E) (fun c d _ H => E c d H) := L2N.takes_of rfl rfl rfl rfl
  exact (b_one (s_ret (v_and (s_bi call_isi says_isi (by rfl) T.n_isinstance bt_isinstance (c_cons (s_var (i := 0) rfl (.inl rfl)) (c_cons (s_ty (by rfl) T.n_int bt_int) c_nil))) (v_and (v_not (s_bi call_isi says_isi (by rfl) T.n_isinstance bt_isinstance (c_cons (s_var (i := 0) rfl (.inl rfl)) (c_cons (s_ty (by rfl) T.n_bool bt_bool) c_nil)))) (v_one (s_chain op_le op_le says_C says_C (s_var (i := 1) rfl (.inl rfl)) (s_var (i := 0) rfl (.inl rfl)) (s_var (i := 2) rfl (.inl rfl))))))))
abbrev s_is_cell : Stmt := topS 9
abbrev N_is_cell : List Str := ["thing"]
abbrev P_is_cell : List Str := ["thing"]
theorem sc_is_cell : FnScope N_is_cell P_is_cell (defScope s_is_cell) := ⟨rfl, rfl, rfl, by decide +kernel, rfl, by decide +kernel, by decide +kernel⟩
noncomputable def b_is_cell : MS :=
  (sRet (mCall m_is_among [] (mCons (mVar 0) (mCons (mC (.int 0)) (mCons c_MOST_CELL mNil)))))
noncomputable def m_is_cell : List W → GH → R W := mDef 1 b_is_cell
theorem ok_is_cell {f : Addr} {fd : FuncData} {dvs : List V} (F : FunD K "is_cell" "is_cell" (defArgs s_is_cell) (defBody s_is_cell) (defScope s_is_cell) dvs [] f fd) (T : Tx K mg ca) (C_is_among : Callable P w K mg base ca 1 "is_among" P_is_among [] m_is_among) : FnOk P w K mg base (L2N.CX P w) 2 f fd P_is_cell (spM K ca 1 m_is_cell) := by
  refine def_okD (N := N_is_cell) F sc_is_cell fun cdv A outer s H E hr => ?_
  have hu := hr.units
  have hu5 := hu_five hr
  have tk : L2N.Takes (cxOf (L2N.CX P w) P w K mg base N_is_cell "is_cell" (defScope s_is_cell) f cdv A outer s H E) (fun c d _ H => E c d H) := L2N.takes_of rfl rfl rfl rfl
  exact (b_one (s_ret (s_call C_is_among (hr.mono (by decide)) (by rfl) tk (a_cons (s_var (i := 0) rfl (.inl rfl)) (a_cons s_int (a_cons (s_glob (by rfl) T.k_MOST_CELL) a_nil))) (len_dws (len_cons (len_cons (len_cons len_nil))) rfl))))
abbrev s_are_cells : Stmt := topS 10
abbrev N_are_cells : List Str := ["thing", "one"]
abbrev P_are_cells : List Str := ["thing"]
theorem sc_are_cells : FnScope N_are_cells P_are_cells (defScope s_are_cells) := ⟨rfl, rfl, rfl, by decide +kernel, rfl, by decide +kernel, by decide +kernel⟩
noncomputable def b_are_cells : MS :=
  (sRet (mAndV (mBi fIsi (mConsT (mVar 0) (mConsT (mC (.ty "list")) mNilT))) (mBi fAll (mConsT (mComp (miA (mVar 0)) (gN 1) mYes (mCall m_is_cell [] (mCons (mVar 1) mNil)) [1]) mNilT))))
noncomputable def m_are_cells : List W → GH → R W := mDef 2 b_are_cells
theorem ok_are_cells {f : Addr} {fd : FuncData} {dvs : List V} (F : FunD K "are_cells" "are_cells" (defArgs s_are_cells) (defBody s_are_cells) (defScope s_are_cells) dvs [] f fd) (T : Tx K mg ca) (C_is_cell : Callable P w K mg base ca 2 "is_cell" P_is_cell [] m_is_cell) : FnOk P w K mg base (L2N.CX P w) 3 f fd P_are_cells (spM K ca 1 m_are_cells) := by
  refine def_okD (N := N_are_cells) F sc_are_cells fun cdv A outer s H E hr => ?_
  have hu := hr.units
  have hu5 := hu_five hr
  have tk : L2N.Takes (cxOf (L2N.CX P w) P w K mg base N_are_cells "are_cells" (defScope s_are_cells) f cdv A outer s H E) (fun c d _ H => E c d H) := L2N.takes_of rfl rfl rfl rfl
  exact (b_one (s_ret (v_and (s_bi call_isi says_isi (by rfl) T.n_isinstance bt_isinstance (c_cons (s_var (i := 0) rfl (.inl rfl)) (c_cons (s_ty (by rfl) T.n_list bt_list) c_nil))) (v_one (s_bi (cr_all rfl) says_all (by rfl) T.n_all bt_all (c_cons (s_lc (own := [("one", 1)]) rfl sc_are_cells.nd (i_any (s_var (i := 0) rfl (.inl rfl))) (blkOk_by (N := N_are_cells) (sc := defScope s_are_cells) (by decide +kernel)) (fun _ _ _ _ _ => (pg_name (i := 1) sc_are_cells.nd rfl (by first | exact .inl rfl | exact .inr rfl))) tgt_name (own_name (by decide)) (fun _ _ _ _ _ => ts_nil) (fun _ _ _ _ _ => (s_call C_is_cell (hr.mono (by decide)) (by rfl) takesN (a_cons (s_var (i := 1) rfl (by first | exact .inl rfl | exact .inr (.inl rfl))) a_nil) (len_dws (len_cons len_nil) rfl)))) c_nil))))))
abbrev s_is_picture : Stmt := topS 11
abbrev N_is_picture : List Str := ["thing", "row"]
abbrev P_is_picture : List Str := ["thing"]
theorem sc_is_picture : FnScope N_is_picture P_is_picture (defScope s_is_picture) := ⟨rfl, rfl, rfl, by decide +kernel, rfl, by decide +kernel, by decide +kernel⟩
noncomputable def b_is_picture : MS :=
  (sSeq (sIf (mOr (mNot (mTru (mBi fIsi (mConsT (mVar 0) (mConsT (mC (.ty "list")) mNilT))))) (mOr (mNot (mB (mChain fLe fLe (mC (.int 1)) (mBi fLen (mConsT (mVar 0) mNilT)) c_MOST_SIDE))) (mNot (mTru (mBi fAll (mConsT (mComp (miA (mVar 0)) (gN 1) mYes (mCall m_are_cells [] (mCons (mVar 1) mNil)) [1]) mNilT)))))) (sRet (mC (.bl false))) sNext) (sRet (mAndV (mChain fLe fLe (mC (.int 1)) (mBi fLen (mConsT (mBin fIx (mVar 0) (mC (.int 0))) mNilT)) c_MOST_SIDE) (mBi fAll (mConsT (mComp (miA (mVar 0)) (gN 1) mYes (mBin fEq (mBi fLen (mConsT (mVar 1) mNilT)) (mBi fLen (mConsT (mBin fIx (mVar 0) (mC (.int 0))) mNilT))) [1]) mNilT)))))
noncomputable def m_is_picture : List W → GH → R W := mDef 2 b_is_picture
theorem ok_is_picture {f : Addr} {fd : FuncData} {dvs : List V} (F : FunD K "is_picture" "is_picture" (defArgs s_is_picture) (defBody s_is_picture) (defScope s_is_picture) dvs [] f fd) (T : Tx K mg ca) (C_are_cells : Callable P w K mg base ca 3 "are_cells" P_are_cells [] m_are_cells) : FnOk P w K mg base (L2N.CX P w) 4 f fd P_is_picture (spM K ca 1 m_is_picture) := by
  refine def_okD (N := N_is_picture) F sc_is_picture fun cdv A outer s H E hr => ?_
  have hu := hr.units
  have hu5 := hu_five hr
  have tk : L2N.Takes (cxOf (L2N.CX P w) P w K mg base N_is_picture "is_picture" (defScope s_is_picture) f cdv A outer s H E) (fun c d _ H => E c d H) := L2N.takes_of rfl rfl rfl rfl
  exact (b_cons (s_if (PW.pt (w_or (s_tnot (s_truth (s_bi call_isi says_isi (by rfl) T.n_isinstance bt_isinstance (c_cons (s_var (i := 0) rfl (.inr (.inl rfl))) (c_cons (s_ty (by rfl) T.n_list bt_list) c_nil))))) (w_or (s_tnot (s_testChain op_le op_le says_C says_C s_int (s_bi call_len says_len (by rfl) T.n_len bt_len (c_cons (s_var (i := 0) rfl (.inr (.inl rfl))) c_nil)) (s_glob (by rfl) T.k_MOST_SIDE))) (w_or1 (s_tnot (s_truth (s_bi (cr_all rfl) says_all (by rfl) T.n_all bt_all (c_cons (s_lc (own := [("row", 1)]) rfl sc_is_picture.nd (i_any (s_var (i := 0) rfl (.inr (.inl rfl)))) (blkOk_by (N := N_is_picture) (sc := defScope s_is_picture) (by decide +kernel)) (fun _ _ _ _ _ => (pg_name (i := 1) sc_is_picture.nd rfl (by first | exact .inl rfl | exact .inr rfl))) tgt_name (own_name (by decide)) (fun _ _ _ _ _ => ts_nil) (fun _ _ _ _ _ => (s_call C_are_cells (hr.mono (by decide)) (by rfl) takesN (a_cons (s_var (i := 1) rfl (by first | exact .inl rfl | exact .inr (.inl rfl))) a_nil) (len_dws (len_cons len_nil) rfl)))) c_nil)))))))) (b_one (s_ret s_bl)) b_nil) (b_one (s_ret (v_and (s_chain op_le op_le says_C says_C s_int (s_bi call_len says_len (by rfl) T.n_len bt_len (c_cons (s_ix (s_var (i := 0) rfl (.inr (.inl rfl))) s_int) c_nil)) (s_glob (by rfl) T.k_MOST_SIDE)) (v_one (s_bi (cr_all rfl) says_all (by rfl) T.n_all bt_all (c_cons (s_lc (own := [("row", 1)]) rfl sc_is_picture.nd (i_any (s_var (i := 0) rfl (.inr (.inl rfl)))) (blkOk_by (N := N_is_picture) (sc := defScope s_is_picture) (by decide +kernel)) (fun _ _ _ _ _ => (pg_name (i := 1) sc_is_picture.nd rfl (by first | exact .inl rfl | exact .inr rfl))) tgt_name (own_name (by decide)) (fun _ _ _ _ _ => ts_nil) (fun _ _ _ _ _ => (s_cmp (op_eqA hu) says_eq (s_bi call_len says_len (by rfl) T.n_len bt_len (c_cons (s_var (i := 1) rfl (by first | exact .inl rfl | exact .inr (.inl rfl))) c_nil)) (s_bi call_len says_len (by rfl) T.n_len bt_len (c_cons (s_ix (s_var (i := 0) rfl (by first | exact .inr (.inl rfl) | exact .inr (.inr rfl) | exact .inl rfl)) s_int) c_nil)) (nomark _)))) c_nil)))))))
abbrev s_need_picture : Stmt := topS 12
abbrev N_need_picture : List Str := ["picture"]
abbrev P_need_picture : List Str := ["picture"]
theorem sc_need_picture : FnScope N_need_picture P_need_picture (defScope s_need_picture) := ⟨rfl, rfl, rfl, by decide +kernel, rfl, by decide +kernel, by decide +kernel⟩
noncomputable def b_need_picture : MS :=
  (sIf (mNot (mTru (mCall m_is_picture [] (mCons (mVar 0) mNil)))) (sRaise 1) sNext)
noncomputable def m_need_picture : List W → GH → R W := mDef 1 b_need_picture
theorem ok_need_picture {f : Addr} {fd : FuncData} {dvs : List V} (F : FunD K "need_picture" "need_picture" (defArgs s_need_picture) (defBody s_need_picture) (defScope s_need_picture) dvs [] f fd) (T : Tx K mg ca) (C_is_picture : Callable P w K mg base ca 4 "is_picture" P_is_picture [] m_is_picture) : FnOk P w K mg base (L2N.CX P w) 5 f fd P_need_picture (spM K ca 1 m_need_picture) := by
  refine def_okD (N := N_need_picture) F sc_need_picture fun cdv A outer s H E hr => ?_
  have hu := hr.units
  have hu5 := hu_five hr
  have tk : L2N.Takes (cxOf (L2N.CX P w) P w K mg base N_need_picture "need_picture" (defScope s_need_picture) f cdv A outer s H E) (fun c d _ H => E c d H) := L2N.takes_of rfl rfl rfl rfl
  exact (b_one (s_if (s_tnot (s_truth (s_call C_is_picture (hr.mono (by decide)) (by rfl) tk (a_cons (s_var (i := 0) rfl (.inl rfl)) a_nil) (len_dws (len_cons len_nil) rfl)))) (b_one (s_raise rfl tk T.e_BadPicture (by rfl))) b_nil))
abbrev s_need_cell : Stmt := topS 13
abbrev N_need_cell : List Str := ["cell"]
abbrev P_need_cell : List Str := ["cell"]
theorem sc_need_cell : FnScope N_need_cell P_need_cell (defScope s_need_cell) := ⟨rfl, rfl, rfl, by decide +kernel, rfl, by decide +kernel, by decide +kernel⟩
noncomputable def b_need_cell : MS :=
  (sIf (mNot (mTru (mCall m_is_cell [] (mCons (mVar 0) mNil)))) (sRaise 2) sNext)
noncomputable def m_need_cell : List W → GH → R W := mDef 1 b_need_cell
theorem ok_need_cell {f : Addr} {fd : FuncData} {dvs : List V} (F : FunD K "need_cell" "need_cell" (defArgs s_need_cell) (defBody s_need_cell) (defScope s_need_cell) dvs [] f fd) (T : Tx K mg ca) (C_is_cell : Callable P w K mg base ca 2 "is_cell" P_is_cell [] m_is_cell) : FnOk P w K mg base (L2N.CX P w) 3 f fd P_need_cell (spM K ca 1 m_need_cell) := by
  refine def_okD (N := N_need_cell) F sc_need_cell fun cdv A outer s H E hr => ?_
  have hu := hr.units
  have hu5 := hu_five hr
  have tk : L2N.Takes (cxOf (L2N.CX P w) P w K mg base N_need_cell "need_cell" (defScope s_need_cell) f cdv A outer s H E) (fun c d _ H => E c d H) := L2N.takes_of rfl rfl rfl rfl
  exact (b_one (s_if (s_tnot (s_truth (s_call C_is_cell (hr.mono (by decide)) (by rfl) tk (a_cons (s_var (i := 0) rfl (.inl rfl)) a_nil) (len_dws (len_cons len_nil) rfl)))) (b_one (s_raise rfl tk T.e_BadCell (by rfl))) b_nil))
abbrev s_need_sides : Stmt := topS 14
abbrev N_need_sides : List Str := ["wide", "high"]
abbrev P_need_sides : List Str := ["wide", "high"]
theorem sc_need_sides : FnScope N_need_sides P_need_sides (defScope s_need_sides) := ⟨rfl, rfl, rfl, by decide +kernel, rfl, by decide +kernel, by decide +kernel⟩
noncomputable def b_need_sides : MS :=
  (sIf (mOr (mNot (mTru (mCall m_is_among [] (mCons (mVar 0) (mCons (mC (.int 1)) (mCons c_MOST_SIDE mNil)))))) (mNot (mTru (mCall m_is_among [] (mCons (mVar 1) (mCons (mC (.int 1)) (mCons c_MOST_SIDE mNil))))))) (sRaise 3) sNext)
noncomputable def m_need_sides : List W → GH → R W := mDef 2 b_need_sides
theorem ok_need_sides {f : Addr} {fd : FuncData} {dvs : List V} (F : FunD K "need_sides" "need_sides" (defArgs s_need_sides) (defBody s_need_sides) (defScope s_need_sides) dvs [] f fd) (T : Tx K mg ca) (C_is_among : Callable P w K mg base ca 1 "is_among" P_is_among [] m_is_among) : FnOk P w K mg base (L2N.CX P w) 2 f fd P_need_sides (spM K ca 2 m_need_sides) := by
  refine def_okD (N := N_need_sides) F sc_need_sides fun cdv A outer s H E hr => ?_
  have hu := hr.units
  have hu5 := hu_five hr
  have tk : L2N.Takes (cxOf (L2N.CX P w) P w K mg base N_need_sides "need_sides" (defScope s_need_sides) f cdv A outer s H E) (fun c d _ H => E c d H) := L2N.takes_of rfl rfl rfl rfl
  exact (b_one (s_if (PW.pt (w_or (s_tnot (s_truth (s_call C_is_among (hr.mono (by decide)) (by rfl) tk (a_cons (s_var (i := 0) rfl (.inl rfl)) (a_cons s_int (a_cons (s_glob (by rfl) T.k_MOST_SIDE) a_nil))) (len_dws (len_cons (len_cons (len_cons len_nil))) rfl)))) (w_or1 (s_tnot (s_truth (s_call C_is_among (hr.mono (by decide)) (by rfl) tk (a_cons (s_var (i := 1) rfl (.inl rfl)) (a_cons s_int (a_cons (s_glob (by rfl) T.k_MOST_SIDE) a_nil))) (len_dws (len_cons (len_cons (len_cons len_nil))) rfl))))))) (b_one (s_raise rfl tk T.e_BadSize (by rfl))) b_nil))
abbrev s_size_of : Stmt := topS 15
abbrev N_size_of : List Str := ["picture"]
abbrev P_size_of : List Str := ["picture"]
theorem sc_size_of : FnScope N_size_of P_size_of (defScope s_size_of) := ⟨rfl, rfl, rfl, by decide +kernel, rfl, by decide +kernel, by decide +kernel⟩
noncomputable def b_size_of : MS :=
  (sSeq (sDrop (mCall m_need_picture [] (mCons (mVar 0) mNil))) (sRet (mTup (mCons (mBi fLen (mConsT (mBin fIx (mVar 0) (mC (.int 0))) mNilT)) (mCons (mBi fLen (mConsT (mVar 0) mNilT)) mNil)))))
noncomputable def m_size_of : List W → GH → R W := mDef 1 b_size_of
theorem ok_size_of {f : Addr} {fd : FuncData} {dvs : List V} (F : FunD K "size_of" "size_of" (defArgs s_size_of) (defBody s_size_of) (defScope s_size_of) dvs [] f fd) (T : Tx K mg ca) (C_need_picture : Callable P w K mg base ca 5 "need_picture" P_need_picture [] m_need_picture) : FnOk P w K mg base (L2N.CX P w) 6 f fd P_size_of (spM K ca 1 m_size_of) := by
  refine def_okD (N := N_size_of) F sc_size_of fun cdv A outer s H E hr => ?_
  have hu := hr.units
  have hu5 := hu_five hr
  have tk : L2N.Takes (cxOf (L2N.CX P w) P w K mg base N_size_of "size_of" (defScope s_size_of) f cdv A outer s H E) (fun c d _ H => E c d H) := L2N.takes_of rfl rfl rfl rfl
  exact (b_cons (s_expr (s_call C_need_picture (hr.mono (by decide)) (by rfl) tk (a_cons (s_var (i := 0) rfl (.inl rfl)) a_nil) (len_dws (len_cons len_nil) rfl))) (b_one (s_ret (s_tup (a_cons (s_bi call_len says_len (by rfl) T.n_len bt_len (c_cons (s_ix (s_var (i := 0) rfl (.inl rfl)) s_int) c_nil)) (a_cons (s_bi call_len says_len (by rfl) T.n_len bt_len (c_cons (s_var (i := 0) rfl (.inl rfl)) c_nil)) a_nil))))))
abbrev s_blank_picture : Stmt := topS 16
abbrev N_blank_picture : List Str := ["wide", "high", "cell", "y"]
abbrev P_blank_picture : List Str := ["wide", "high", "cell"]
theorem sc_blank_picture : FnScope N_blank_picture P_blank_picture (defScope s_blank_picture) := ⟨rfl, rfl, rfl, by decide +kernel, rfl, by decide +kernel, by decide +kernel⟩
noncomputable def b_blank_picture : MS :=
  (sSeq (sDrop (mCall m_need_sides [] (mCons (mVar 0) (mCons (mVar 1) mNil)))) (sSeq (sDrop (mCall m_need_cell [] (mCons (mVar 2) mNil))) (sRet (mComp (miR (mCons (mVar 1) mNil)) (gN 3) mYes (mBin fMul (mLst (mCons (mVar 2) mNil)) (mVar 0)) [3]))))
noncomputable def m_blank_picture : List W → GH → R W := mDef 4 b_blank_picture
theorem ok_blank_picture {f : Addr} {fd : FuncData} {dvs : List V} (F : FunD K "blank_picture" "blank_picture" (defArgs s_blank_picture) (defBody s_blank_picture) (defScope s_blank_picture) dvs [] f fd) (T : Tx K mg ca) (C_need_cell : Callable P w K mg base ca 3 "need_cell" P_need_cell [] m_need_cell) (C_need_sides : Callable P w K mg base ca 2 "need_sides" P_need_sides [] m_need_sides) : FnOk P w K mg base (L2N.CX P w) 4 f fd P_blank_picture (spM K ca 3 m_blank_picture) := by
  refine def_okD (N := N_blank_picture) F sc_blank_picture fun cdv A outer s H E hr => ?_
  have hu := hr.units
  have hu5 := hu_five hr
  have tk : L2N.Takes (cxOf (L2N.CX P w) P w K mg base N_blank_picture "blank_picture" (defScope s_blank_picture) f cdv A outer s H E) (fun c d _ H => E c d H) := L2N.takes_of rfl rfl rfl rfl
  exact (b_cons (s_expr (s_call C_need_sides (hr.mono (by decide)) (by rfl) tk (a_cons (s_var (i := 0) rfl (.inr (.inl rfl))) (a_cons (s_var (i := 1) rfl (.inl rfl)) a_nil)) (len_dws (len_cons (len_cons len_nil)) rfl))) (b_cons (s_expr (s_call C_need_cell (hr.mono (by decide)) (by rfl) tk (a_cons (s_var (i := 2) rfl (.inr (.inl rfl))) a_nil) (len_dws (len_cons len_nil) rfl))) (b_one (s_ret (s_lc (own := [("y", 3)]) rfl sc_blank_picture.nd (i_range1 (by rfl) T.n_range (a_cons (s_var (i := 1) rfl (.inl rfl)) a_nil)) (blkOk_by (N := N_blank_picture) (sc := defScope s_blank_picture) (by decide +kernel)) (fun _ _ _ _ _ => (pg_name (i := 3) sc_blank_picture.nd rfl (by first | exact .inl rfl | exact .inr rfl))) tgt_name (own_name (by decide)) (fun _ _ _ _ _ => ts_nil) (fun _ _ _ _ _ => (s_bin op_mulA says_mul (s_lst (a_cons (s_var (i := 2) rfl (by first | exact .inr (.inl rfl) | exact .inr (.inr rfl) | exact .inl rfl)) a_nil)) (s_var (i := 0) rfl (by first | exact .inr (.inl rfl) | exact .inr (.inr rfl) | exact .inl rfl)))))))))
abbrev s_law_cell_at : Stmt := topS 18
abbrev N_law_cell_at : List Str := ["_law_script", "_law_k"]
abbrev P_law_cell_at : List Str := ["_law_script", "_law_k"]
theorem sc_law_cell_at : FnScope N_law_cell_at P_law_cell_at (defScope s_law_cell_at) := ⟨rfl, rfl, rfl, by decide +kernel, rfl, by decide +kernel, by decide +kernel⟩
noncomputable def b_law_cell_at : MS :=
  (sSeq (sIf (mB (mBin fLt (mVar 1) (mBi fLen (mConsT (mVar 0) mNilT)))) (sRet (mBin fIx (mVar 0) (mVar 1))) sNext) (sRet (mC (.int 0))))
noncomputable def m_law_cell_at : List W → GH → R W := mDef 2 b_law_cell_at
theorem ok_law_cell_at {f : Addr} {fd : FuncData} {dvs : List V} (F : FunD K "_law_cell_at" "_law_cell_at" (defArgs s_law_cell_at) (defBody s_law_cell_at) (defScope s_law_cell_at) dvs [] f fd) (T : Tx K mg ca) : FnOk P w K mg base (L2N.CX P w) 1 f fd P_law_cell_at (spM K ca 2 m_law_cell_at) := by
  refine def_okD (N := N_law_cell_at) F sc_law_cell_at fun cdv A outer s H E hr => ?_
  have hu := hr.units
  have hu5 := hu_five hr
  have tk : L2N.Takes (cxOf (L2N.CX P w) P w K mg base N_law_cell_at "_law_cell_at" (defScope s_law_cell_at) f cdv A outer s H E) (fun c d _ H => E c d H) := L2N.takes_of rfl rfl rfl rfl
  exact (b_cons (s_if (s_testCmp op_lt says_C (s_var (i := 1) rfl (.inl rfl)) (s_bi call_len says_len (by rfl) T.n_len bt_len (c_cons (s_var (i := 0) rfl (.inl rfl)) c_nil)) (nomark _)) (b_one (s_ret (s_ix (s_var (i := 0) rfl (.inl rfl)) (s_var (i := 1) rfl (.inl rfl))))) b_nil) (b_one (s_ret s_int)))
abbrev s_law_mixed : Stmt := topS 19
abbrev N_law_mixed : List Str := ["_law_cell", "_law_k", "_law_number"]
abbrev P_law_mixed : List Str := ["_law_cell", "_law_k"]
theorem sc_law_mixed : FnScope N_law_mixed P_law_mixed (defScope s_law_mixed) := ⟨rfl, rfl, rfl, by decide +kernel, rfl, by decide +kernel, by decide +kernel⟩
noncomputable def b_law_mixed : MS :=
  (sSeq (sSet 2 (mBin fAdd (mBin fAdd (mBin fMod (mVar 0) (mC (.int 1000000007))) (mBin fMul (mC (.int 7919)) (mVar 1))) (mC (.int 13)))) (sRet (mBin fFdiv (mBin fMod (mBin fMul (mBin fMod (mBin fMul (mVar 2) (mVar 2)) (mC (.int 1000000007))) (mVar 2)) (mC (.int 998244353))) (mC (.int 11)))))
noncomputable def m_law_mixed : List W → GH → R W := mDef 3 b_law_mixed
theorem ok_law_mixed {f : Addr} {fd : FuncData} {dvs : List V} (F : FunD K "_law_mixed" "_law_mixed" (defArgs s_law_mixed) (defBody s_law_mixed) (defScope s_law_mixed) dvs [] f fd) (T : Tx K mg ca) : FnOk P w K mg base (L2N.CX P w) 1 f fd P_law_mixed (spM K ca 2 m_law_mixed) := by
  refine def_okD (N := N_law_mixed) F sc_law_mixed fun cdv A outer s H E hr => ?_
  have hu := hr.units
  have hu5 := hu_five hr
  have tk : L2N.Takes (cxOf (L2N.CX P w) P w K mg base N_law_mixed "_law_mixed" (defScope s_law_mixed) f cdv A outer s H E) (fun c d _ H => E c d H) := L2N.takes_of rfl rfl rfl rfl
  exact (b_cons (s_set (i := 2) sc_law_mixed.nd rfl (.inl rfl) (s_bin op_addA says_add (s_bin op_addA says_add (s_bin op_mod says_mod (s_var (i := 0) rfl (.inl rfl)) s_int) (s_bin op_mulA says_mul s_int (s_var (i := 1) rfl (.inl rfl)))) s_int)) (b_one (s_ret (s_bin op_fdivW says_fdiv (s_bin op_mod says_mod (s_bin op_mulA says_mul (s_bin op_mod says_mod (s_bin op_mulA says_mul (s_var (i := 2) rfl (.inl rfl)) (s_var (i := 2) rfl (.inl rfl))) s_int) (s_var (i := 2) rfl (.inl rfl))) s_int) s_int))))
abbrev s_law_picture : Stmt := topS 20
abbrev N_law_picture : List Str := ["_law_script", "_law_at", "_law_most", "_law_base", "_law_cells", "_law_high", "_law_hues", "_law_side", "_law_wide", "_law_y", "_law_x"]
abbrev P_law_picture : List Str := ["_law_script", "_law_at", "_law_most"]
theorem sc_law_picture : FnScope N_law_picture P_law_picture (defScope s_law_picture) := ⟨rfl, rfl, rfl, by decide +kernel, rfl, by decide +kernel, by decide +kernel⟩
noncomputable def b_law_picture : MS :=
  (sSeq (sSet 7 (mCall m_law_cell_at [] (mCons (mVar 0) (mCons (mVar 1) mNil)))) (sSeq (sSet 8 (mBin fAdd (mC (.int 1)) (mBin fMod (mVar 7) (mVar 2)))) (sSeq (sSet 5 (mBin fAdd (mC (.int 1)) (mBin fMod (mBin fFdiv (mVar 7) (mVar 2)) (mVar 2)))) (sSeq (sIf (mB (mBin fEq (mBin fMod (mBin fFdiv (mBin fFdiv (mVar 7) (mVar 2)) (mVar 2)) (mC (.int 8))) (mC (.int 1)))) (sSet 8 (mBin fAdd (mC (.int 1)) (mBin fMod (mBin fFdiv (mBin fFdiv (mBin fFdiv (mVar 7) (mVar 2)) (mVar 2)) (mC (.int 8))) (mC (.int 24))))) (sIf (mB (mBin fEq (mBin fMod (mBin fFdiv (mBin fFdiv (mVar 7) (mVar 2)) (mVar 2)) (mC (.int 8))) (mC (.int 2)))) (sSet 5 (mBin fAdd (mC (.int 1)) (mBin fMod (mBin fFdiv (mBin fFdiv (mBin fFdiv (mVar 7) (mVar 2)) (mVar 2)) (mC (.int 8))) (mC (.int 24))))) sNext)) (sSeq (sSet 6 (mBin fIx (mLst (mCons (mC (.int 16)) (mCons (mC (.int 2)) (mCons (mC (.int 3)) (mCons (mC (.int 4)) mNil))))) (mBin fMod (mCall m_law_cell_at [] (mCons (mVar 0) (mCons (mBin fAdd (mVar 1) (mC (.int 1))) mNil))) (mC (.int 4))))) (sSeq (sSet 3 (mBin fMod (mBin fFdiv (mCall m_law_cell_at [] (mCons (mVar 0) (mCons (mBin fAdd (mVar 1) (mC (.int 1))) mNil))) (mC (.int 4))) (mC (.int 16)))) (sSeq (sSet 4 (mCall m_law_cell_at [] (mCons (mVar 0) (mCons (mBin fAdd (mVar 1) (mC (.int 2))) mNil)))) (sRet (mComp (miR (mCons (mVar 5) mNil)) (gN 9) mYes (mComp (miR (mCons (mVar 8) mNil)) (gN 10) mYes (mBin fMod (mBin fAdd (mVar 3) (mBin fMod (mCall m_law_mixed [] (mCons (mVar 4) (mCons (mBin fAdd (mBin fMul (mC (.int 24)) (mVar 9)) (mVar 10)) mNil))) (mVar 6))) (mC (.int 16))) [10]) [9])))))))))
noncomputable def m_law_picture : List W → GH → R W := mDef 11 b_law_picture
theorem ok_law_picture {f : Addr} {fd : FuncData} {dvs : List V} (F : FunD K "_law_picture" "_law_picture" (defArgs s_law_picture) (defBody s_law_picture) (defScope s_law_picture) dvs [] f fd) (T : Tx K mg ca) (C_law_cell_at : Callable P w K mg base ca 1 "_law_cell_at" P_law_cell_at [] m_law_cell_at) (C_law_mixed : Callable P w K mg base ca 1 "_law_mixed" P_law_mixed [] m_law_mixed) : FnOk P w K mg base (L2N.CX P w) 2 f fd P_law_picture (spM K ca 3 m_law_picture) := by
  refine def_okD (N := N_law_picture) F sc_law_picture fun cdv A outer s H E hr => ?_
  have hu := hr.units
  have hu5 := hu_five hr
  have tk : L2N.Takes (cxOf (L2N.CX P w) P w K mg base N_law_picture "_law_picture" (defScope s_law_picture) f cdv A outer s H E) (fun c d _ H => E c d H) := L2N.takes_of rfl rfl rfl rfl
  exact (b_cons (s_set (i := 7) sc_law_picture.nd rfl (.inl rfl) (s_call C_law_cell_at (hr.mono (by decide)) (by rfl) tk (a_cons (s_var (i := 0) rfl (.inl rfl)) (a_cons (s_var (i := 1) rfl (.inl rfl)) a_nil)) (len_dws (len_cons (len_cons len_nil)) rfl))) (b_cons (s_set (i := 8) sc_law_picture.nd rfl (.inr rfl) (s_bin op_addA says_add s_int (s_bin op_mod says_mod (s_var (i := 7) rfl (.inl rfl)) (s_var (i := 2) rfl (.inl rfl))))) (b_cons (s_set (i := 5) sc_law_picture.nd rfl (.inl rfl) (s_bin op_addA says_add s_int (s_bin op_mod says_mod (s_bin op_fdivW says_fdiv (s_var (i := 7) rfl (.inl rfl)) (s_var (i := 2) rfl (.inl rfl))) (s_var (i := 2) rfl (.inl rfl))))) (b_cons (s_if (s_testCmp (op_eqA hu) says_eq (s_bin op_mod says_mod (s_bin op_fdivW says_fdiv (s_bin op_fdivW says_fdiv (s_var (i := 7) rfl (.inl rfl)) (s_var (i := 2) rfl (.inl rfl))) (s_var (i := 2) rfl (.inl rfl))) s_int) s_int (nomark _)) (b_one (s_set (i := 8) sc_law_picture.nd rfl (.inr rfl) (s_bin op_addA says_add s_int (s_bin op_mod says_mod (s_bin op_fdivW says_fdiv (s_bin op_fdivW says_fdiv (s_bin op_fdivW says_fdiv (s_var (i := 7) rfl (.inl rfl)) (s_var (i := 2) rfl (.inl rfl))) (s_var (i := 2) rfl (.inl rfl))) s_int) s_int)))) (b_one (s_if (s_testCmp (op_eqA hu) says_eq (s_bin op_mod says_mod (s_bin op_fdivW says_fdiv (s_bin op_fdivW says_fdiv (s_var (i := 7) rfl (.inl rfl)) (s_var (i := 2) rfl (.inl rfl))) (s_var (i := 2) rfl (.inl rfl))) s_int) s_int (nomark _)) (b_one (s_set (i := 5) sc_law_picture.nd rfl (.inl rfl) (s_bin op_addA says_add s_int (s_bin op_mod says_mod (s_bin op_fdivW says_fdiv (s_bin op_fdivW says_fdiv (s_bin op_fdivW says_fdiv (s_var (i := 7) rfl (.inl rfl)) (s_var (i := 2) rfl (.inl rfl))) (s_var (i := 2) rfl (.inl rfl))) s_int) s_int)))) b_nil))) (b_cons (s_set (i := 6) sc_law_picture.nd rfl (.inr rfl) (s_ix (s_lst (a_cons s_int (a_cons s_int (a_cons s_int (a_cons s_int a_nil))))) (s_bin op_mod says_mod (s_call C_law_cell_at (hr.mono (by decide)) (by rfl) tk (a_cons (s_var (i := 0) rfl (.inl rfl)) (a_cons (s_bin op_addA says_add (s_var (i := 1) rfl (.inl rfl)) s_int) a_nil)) (len_dws (len_cons (len_cons len_nil)) rfl)) s_int))) (b_cons (s_set (i := 3) sc_law_picture.nd rfl (.inr rfl) (s_bin op_mod says_mod (s_bin op_fdivW says_fdiv (s_call C_law_cell_at (hr.mono (by decide)) (by rfl) tk (a_cons (s_var (i := 0) rfl (.inl rfl)) (a_cons (s_bin op_addA says_add (s_var (i := 1) rfl (.inl rfl)) s_int) a_nil)) (len_dws (len_cons (len_cons len_nil)) rfl)) s_int) s_int)) (b_cons (s_set (i := 4) sc_law_picture.nd rfl (.inr rfl) (s_call C_law_cell_at (hr.mono (by decide)) (by rfl) tk (a_cons (s_var (i := 0) rfl (.inl rfl)) (a_cons (s_bin op_addA says_add (s_var (i := 1) rfl (.inl rfl)) s_int) a_nil)) (len_dws (len_cons (len_cons len_nil)) rfl))) (b_one (s_ret (s_lc (own := [("_law_y", 9)]) rfl sc_law_picture.nd (i_range1 (by rfl) T.n_range (a_cons (s_var (i := 5) rfl (.inl rfl)) a_nil)) (blkOk_by (N := N_law_picture) (sc := defScope s_law_picture) (by decide +kernel)) (fun _ _ _ _ _ => (pg_name (i := 9) sc_law_picture.nd rfl (by first | exact .inl rfl | exact .inr rfl))) tgt_name (own_name (by decide)) (fun _ _ _ _ _ => ts_nil) (fun _ _ _ _ _ => (s_lc (own := [("_law_x", 10)]) rfl sc_law_picture.nd (i_range1 (by rfl) T.n_range (a_cons (s_var (i := 8) rfl (by first | exact .inr (.inl rfl) | exact .inr (.inr rfl) | exact .inl rfl)) a_nil)) (blkOk_by (by kernel_rfl)) (fun _ _ _ _ _ => (pg_name (i := 10) sc_law_picture.nd rfl (by first | exact .inl rfl | exact .inr rfl))) tgt_name (own_name (by decide)) (fun _ _ _ _ _ => ts_nil) (fun _ _ _ _ _ => (s_bin op_mod says_mod (s_bin op_addA says_add (s_var (i := 3) rfl (by first | exact .inr (.inl rfl) | exact .inr (.inr rfl) | exact .inl rfl)) (s_bin op_mod says_mod (s_call C_law_mixed (hr.mono (by decide)) (by rfl) takesN (a_cons (s_var (i := 4) rfl (by first | exact .inr (.inl rfl) | exact .inr (.inr rfl) | exact .inl rfl)) (a_cons (s_bin op_addA says_add (s_bin op_mulA says_mul s_int (s_var (i := 9) rfl (by first | exact .inr (.inl rfl) | exact .inr (.inr rfl) | exact .inl rfl))) (s_var (i := 10) rfl (by first | exact .inl rfl | exact .inr (.inl rfl)))) a_nil)) (len_dws (len_cons (len_cons len_nil)) rfl)) (s_var (i := 6) rfl (by first | exact .inr (.inl rfl) | exact .inr (.inr rfl) | exact .inl rfl)))) s_int))))))))))))))
abbrev s_law_copied : Stmt := topS 21
abbrev N_law_copied : List Str := ["_law_picture_here", "_law_row"]
abbrev P_law_copied : List Str := ["_law_picture_here"]
theorem sc_law_copied : FnScope N_law_copied P_law_copied (defScope s_law_copied) := ⟨rfl, rfl, rfl, by decide +kernel, rfl, by decide +kernel, by decide +kernel⟩
noncomputable def b_law_copied : MS :=
  (sRet (mComp (miA (mVar 0)) (gN 1) mYes (mBi fList (mConsT (mVar 1) mNilT)) [1]))
noncomputable def m_law_copied : List W → GH → R W := mDef 2 b_law_copied
theorem ok_law_copied {f : Addr} {fd : FuncData} {dvs : List V} (F : FunD K "_law_copied" "_law_copied" (defArgs s_law_copied) (defBody s_law_copied) (defScope s_law_copied) dvs [] f fd) (T : Tx K mg ca) : FnOk P w K mg base (L2N.CX P w) 1 f fd P_law_copied (spM K ca 1 m_law_copied) := by
  refine def_okD (N := N_law_copied) F sc_law_copied fun cdv A outer s H E hr => ?_
  have hu := hr.units
  have hu5 := hu_five hr
  have tk : L2N.Takes (cxOf (L2N.CX P w) P w K mg base N_law_copied "_law_copied" (defScope s_law_copied) f cdv A outer s H E) (fun c d _ H => E c d H) := L2N.takes_of rfl rfl rfl rfl
  exact (b_one (s_ret (s_lc (own := [("_law_row", 1)]) rfl sc_law_copied.nd (i_any (s_var (i := 0) rfl (.inl rfl))) (blkOk_by (N := N_law_copied) (sc := defScope s_law_copied) (by decide +kernel)) (fun _ _ _ _ _ => (pg_name (i := 1) sc_law_copied.nd rfl (by first | exact .inl rfl | exact .inr rfl))) tgt_name (own_name (by decide)) (fun _ _ _ _ _ => ts_nil) (fun _ _ _ _ _ => (s_bty call_list_of says_list (by rfl) T.n_list bt_list (c_cons (s_var (i := 1) rfl (by first | exact .inl rfl | exact .inr (.inl rfl))) c_nil))))))
abbrev s_law_is_like : Stmt := topS 22
abbrev N_law_is_like : List Str := ["_law_found", "_law_due", "_law_good_here", "_law_other", "_law_row", "_law_cell"]
abbrev P_law_is_like : List Str := ["_law_found", "_law_due"]
theorem sc_law_is_like : FnScope N_law_is_like P_law_is_like (defScope s_law_is_like) := ⟨rfl, rfl, rfl, by decide +kernel, rfl, by decide +kernel, by decide +kernel⟩
noncomputable def b_law_is_like : MS :=
  (sSeq (sIf (mOr (mNot (mTru (mBi fIsi (mConsT (mVar 0) (mConsT (mC (.ty "list")) mNilT))))) (mB (mBin fNe (mBi fLen (mConsT (mVar 0) mNilT)) (mBi fLen (mConsT (mVar 1) mNilT))))) (sRet (mC (.bl false))) sNext) (sSeq (sFor (miB iterZ (mConsT (mVar 0) (mConsT (mVar 1) mNilT))) (gT (gC (gN 4) (gC (gN 3) gE))) (sSeq (sIf (mOr (mNot (mTru (mBi fIsi (mConsT (mVar 4) (mConsT (mC (.ty "list")) mNilT))))) (mB (mBin fNe (mVar 4) (mVar 3)))) (sRet (mC (.bl false))) sNext) (sIf (mB (mBin fNe (mComp (miA (mVar 4)) (gN 5) (mOr (mNot (mTru (mBi fIsi (mConsT (mVar 5) (mConsT (mC (.ty "int")) mNilT))))) (mTru (mBi fIsi (mConsT (mVar 5) (mConsT (mC (.ty "bool")) mNilT))))) (mVar 5) [5]) (mLst mNil))) (sRet (mC (.bl false))) sNext))) (sSeq (sFor (miA (mVar 0)) (gN 4) (sDrop (mMtF isLst fApp (mVar 4) (mCons (mC (.int 0)) mNil)))) (sSeq (sSet 2 (mBin fEq (mComp (miA (mVar 0)) (gN 4) mYes (mBi fLen (mConsT (mVar 4) mNilT)) [4]) (mComp (miA (mVar 1)) (gN 4) mYes (mBin fAdd (mBi fLen (mConsT (mVar 4) mNilT)) (mC (.int 1))) [4]))) (sSeq (sFor (miA (mVar 0)) (gN 4) (sDrop (mMt isLst fPop (mVar 4) mNilT))) (sRet (mVar 2)))))))
noncomputable def m_law_is_like : List W → GH → R W := mDef 6 b_law_is_like
theorem ok_law_is_like {f : Addr} {fd : FuncData} {dvs : List V} (F : FunD K "_law_is_like" "_law_is_like" (defArgs s_law_is_like) (defBody s_law_is_like) (defScope s_law_is_like) dvs [] f fd) (T : Tx K mg ca) : FnOk P w K mg base (L2N.CX P w) 1 f fd P_law_is_like (spM K ca 2 m_law_is_like) := by
  refine def_okD (N := N_law_is_like) F sc_law_is_like fun cdv A outer s H E hr => ?_
  have hu := hr.units
  have hu5 := hu_five hr
  have tk : L2N.Takes (cxOf (L2N.CX P w) P w K mg base N_law_is_like "_law_is_like" (defScope s_law_is_like) f cdv A outer s H E) (fun c d _ H => E c d H) := L2N.takes_of rfl rfl rfl rfl
  exact (b_cons (s_if (PW.pt (w_or (s_tnot (s_truth (s_bi call_isi says_isi (by rfl) T.n_isinstance bt_isinstance (c_cons (s_var (i := 0) rfl (.inl rfl)) (c_cons (s_ty (by rfl) T.n_list bt_list) c_nil))))) (w_or1 (s_testCmp (op_neA hu) says_ne (s_bi call_len says_len (by rfl) T.n_len bt_len (c_cons (s_var (i := 0) rfl (.inl rfl)) c_nil)) (s_bi call_len says_len (by rfl) T.n_len bt_len (c_cons (s_var (i := 1) rfl (.inl rfl)) c_nil)) (nomark _))))) (b_one (s_ret s_bl)) b_nil) (b_cons (s_for (passes_of rfl) rfl (i_zip (by rfl) T.n_zip (c_cons (s_var (i := 0) rfl (.inl rfl)) (c_cons (s_var (i := 1) rfl (.inl rfl)) c_nil))) (g_tup rfl (g_cons (g_name (i := 4) sc_law_is_like.nd rfl (.inl rfl)) (g_cons (g_name (i := 3) sc_law_is_like.nd rfl (.inl rfl)) g_nil)) (gl_cons (gl_cons gl_nil))) (b_cons (s_if (PW.pt (w_or (s_tnot (s_truth (s_bi call_isi says_isi (by rfl) T.n_isinstance bt_isinstance (c_cons (s_var (i := 4) rfl (.inl rfl)) (c_cons (s_ty (by rfl) T.n_list bt_list) c_nil))))) (w_or1 (s_testCmp (op_neA hu) says_ne (s_var (i := 4) rfl (.inl rfl)) (s_var (i := 3) rfl (.inl rfl)) (nomark _))))) (b_one (s_ret s_bl)) b_nil) (b_one (s_if (s_testCmp (op_neA hu) says_ne (s_lc (own := [("_law_cell", 5)]) rfl sc_law_is_like.nd (i_any (s_var (i := 4) rfl (.inl rfl))) (blkOk_by (N := N_law_is_like) (sc := defScope s_law_is_like) (by decide +kernel)) (fun _ _ _ _ _ => (pg_name (i := 5) sc_law_is_like.nd rfl (by first | exact .inl rfl | exact .inr rfl))) tgt_name (own_name (by decide)) (fun _ _ _ _ _ => (ts_one (PW.pt (w_or (s_tnot (s_truth (s_bi call_isi says_isi (by rfl) T.n_isinstance bt_isinstance (c_cons (s_var (i := 5) rfl (by first | exact .inl rfl | exact .inr (.inl rfl))) (c_cons (s_ty (by rfl) T.n_int bt_int) c_nil))))) (w_or1 (s_truth (s_bi call_isi says_isi (by rfl) T.n_isinstance bt_isinstance (c_cons (s_var (i := 5) rfl (by first | exact .inl rfl | exact .inr (.inl rfl))) (c_cons (s_ty (by rfl) T.n_bool bt_bool) c_nil))))))))) (fun _ _ _ _ _ => (s_var (i := 5) rfl (by first | exact .inl rfl | exact .inr (.inl rfl))))) (s_lst a_nil) (nomark _)) (b_one (s_ret s_bl)) b_nil)))) (b_cons (s_for (passes_of rfl) rfl (i_any (s_var (i := 0) rfl (.inl rfl))) (g_name (i := 4) sc_law_is_like.nd rfl (.inl rfl)) (b_one (s_expr (s_mtF PySem.F.plainAttrs_list PySem.F.slot_list_append PySem.F.type_list_append mt_append says_app ty_list (s_var (i := 4) rfl (.inl rfl)) (a_cons s_int a_nil))))) (b_cons (s_set (i := 2) sc_law_is_like.nd rfl (.inl rfl) (s_cmp (op_eqA hu) says_eq (s_lc (own := [("_law_row", 4)]) rfl sc_law_is_like.nd (i_any (s_var (i := 0) rfl (.inl rfl))) (blkOk_by (N := N_law_is_like) (sc := defScope s_law_is_like) (by decide +kernel)) (fun _ _ _ _ _ => (pg_name (i := 4) sc_law_is_like.nd rfl (by first | exact .inl rfl | exact .inr rfl))) tgt_name (own_name (by decide)) (fun _ _ _ _ _ => ts_nil) (fun _ _ _ _ _ => (s_bi call_len says_len (by rfl) T.n_len bt_len (c_cons (s_var (i := 4) rfl (by first | exact .inl rfl | exact .inr (.inl rfl))) c_nil)))) (s_lc (own := [("_law_row", 4)]) rfl sc_law_is_like.nd (i_any (s_var (i := 1) rfl (.inl rfl))) (blkOk_by (N := N_law_is_like) (sc := defScope s_law_is_like) (by decide +kernel)) (fun _ _ _ _ _ => (pg_name (i := 4) sc_law_is_like.nd rfl (by first | exact .inl rfl | exact .inr rfl))) tgt_name (own_name (by decide)) (fun _ _ _ _ _ => ts_nil) (fun _ _ _ _ _ => (s_bin op_addA says_add (s_bi call_len says_len (by rfl) T.n_len bt_len (c_cons (s_var (i := 4) rfl (by first | exact .inl rfl | exact .inr (.inl rfl))) c_nil)) s_int))) (nomark _))) (b_cons (s_for (passes_of rfl) rfl (i_any (s_var (i := 0) rfl (.inl rfl))) (g_name (i := 4) sc_law_is_like.nd rfl (.inl rfl)) (b_one (s_expr (s_mt0 PySem.F.plainAttrs_list PySem.F.slot_list_pop PySem.F.type_list_pop mt_pop says_pop ty_list (s_var (i := 4) rfl (.inl rfl)))))) (b_one (s_ret (s_var (i := 2) rfl (.inl rfl)))))))))
abbrev s_law_odd : Stmt := topS 23
abbrev N_law_odd : List Str := ["_law_cell", "_law_far"]
abbrev P_law_odd : List Str := ["_law_cell"]
theorem sc_law_odd : FnScope N_law_odd P_law_odd (defScope s_law_odd) := ⟨rfl, rfl, rfl, by decide +kernel, rfl, by decide +kernel, by decide +kernel⟩
noncomputable def b_law_odd : MS :=
  (sSeq (sSet 1 (mBin fMod (mBin fFdiv (mVar 0) (mC (.int 9))) (mBin fPow (mC (.int 10)) (mC (.int 20))))) (sRet (mBin fIx (mLst (mCons (mUn fNeg (mC (.int 1))) (mCons (mC (.int 16)) (mCons (mC (.bl true)) (mCons (mC .non) (mCons (mC (.str "1")) (mCons (mLst (mCons (mC (.int 0)) mNil)) (mCons (mBin fAdd (mC (.int 16)) (mVar 1)) (mCons (mBin fSub (mUn fNeg (mC (.int 1))) (mVar 1)) (mCons (mC (.bl false)) mNil)))))))))) (mBin fMod (mVar 0) (mC (.int 9))))))
noncomputable def m_law_odd : List W → GH → R W := mDef 2 b_law_odd
theorem ok_law_odd {f : Addr} {fd : FuncData} {dvs : List V} (F : FunD K "_law_odd" "_law_odd" (defArgs s_law_odd) (defBody s_law_odd) (defScope s_law_odd) dvs [] f fd) (T : Tx K mg ca) : FnOk P w K mg base (L2N.CX P w) 1 f fd P_law_odd (spM K ca 1 m_law_odd) := by
  refine def_okD (N := N_law_odd) F sc_law_odd fun cdv A outer s H E hr => ?_
  have hu := hr.units
  have hu5 := hu_five hr
  have tk : L2N.Takes (cxOf (L2N.CX P w) P w K mg base N_law_odd "_law_odd" (defScope s_law_odd) f cdv A outer s H E) (fun c d _ H => E c d H) := L2N.takes_of rfl rfl rfl rfl
  exact (b_cons (s_set (i := 1) sc_law_odd.nd rfl (.inl rfl) (s_bin op_mod says_mod (s_bin op_fdivW says_fdiv (s_var (i := 0) rfl (.inl rfl)) s_int) (s_bin op_pow says_pow s_int s_int))) (b_one (s_ret (s_ix (s_lst (a_cons (s_neg s_int) (a_cons s_int (a_cons s_bl (a_cons s_non (a_cons s_str (a_cons (s_lst (a_cons s_int a_nil)) (a_cons (s_bin op_addA says_add s_int (s_var (i := 1) rfl (.inl rfl))) (a_cons (s_bin op_sub says_sub (s_neg s_int) (s_var (i := 1) rfl (.inl rfl))) (a_cons s_bl a_nil)))))))))) (s_bin op_mod says_mod (s_var (i := 0) rfl (.inl rfl)) s_int)))))
abbrev s_law_spoilt : Stmt := topS 24
abbrev N_law_spoilt : List Str := ["_law_picture_here", "_law_cell", "_law_found", "_law_row", "_law_y", "_law_one", "_law_k"]
abbrev P_law_spoilt : List Str := ["_law_picture_here", "_law_cell"]
theorem sc_law_spoilt : FnScope N_law_spoilt P_law_spoilt (defScope s_law_spoilt) := ⟨rfl, rfl, rfl, by decide +kernel, rfl, by decide +kernel, by decide +kernel⟩
noncomputable def b_law_spoilt : MS :=
  (sSeq (sSet 2 (mCall m_law_copied [] (mCons (mVar 0) mNil))) (sSeq (sSet 4 (mBin fMod (mBin fFdiv (mVar 1) (mC (.int 16))) (mBi fLen (mConsT (mVar 2) mNilT)))) (sSeq (sSet 3 (mBin fIx (mVar 2) (mVar 4))) (sSeq (sIf (mB (mBin fLt (mBin fMod (mVar 1) (mC (.int 16))) (mC (.int 7)))) (sSeq (sPut (mVar 3) (mBin fMod (mBin fFdiv (mVar 1) (mC (.int 512))) (mBi fLen (mConsT (mVar 3) mNilT))) (mCall m_law_odd [] (mCons (mBin fFdiv (mVar 1) (mC (.int 16384))) mNil))) (sRet (mVar 2))) sNext) (sSeq (sIf (mB (mBin fEq (mBin fMod (mVar 1) (mC (.int 16))) (mC (.int 7)))) (sPut (mVar 2) (mVar 4) (mBin fIx (mLst (mCons (mBin fAdd (mVar 3) (mLst (mCons (mC (.int 3)) mNil))) (mCons (mSl (mVar 3) (mP (mC (.int 1))) mNoP) mNil))) (mBin fMod (mBin fFdiv (mVar 1) (mC (.int 512))) (mC (.int 2))))) sNext) (sSeq (sIf (mB (mBin fEq (mBin fMod (mVar 1) (mC (.int 16))) (mC (.int 8)))) (sPut (mVar 2) (mVar 4) (mBin fIx (mLst (mCons (mBi fTuple (mConsT (mVar 3) mNilT)) (mCons (mC .non) (mCons (mC (.str "00")) (mCons (mC (.int 5)) (mCons mDict0 mNil)))))) (mBin fMod (mBin fFdiv (mVar 1) (mC (.int 512))) (mC (.int 5))))) sNext) (sSeq (sIf (mB (mBin fEq (mBin fMod (mVar 1) (mC (.int 16))) (mC (.int 9)))) (sRet (mComp (miA (mVar 2)) (gN 5) mYes (mLst mNil) [5])) sNext) (sSeq (sIf (mB (mBin fEq (mBin fMod (mVar 1) (mC (.int 16))) (mC (.int 10)))) (sRet (mComp (miR (mCons (mC (.int 25)) mNil)) (gN 6) mYes (mBi fList (mConsT (mVar 3) mNilT)) [6])) sNext) (sSeq (sIf (mB (mBin fEq (mBin fMod (mVar 1) (mC (.int 16))) (mC (.int 11)))) (sRet (mComp (miA (mVar 2)) (gN 5) mYes (mBin fMul (mLst (mCons (mBin fMod (mBin fFdiv (mVar 1) (mC (.int 512))) (mC (.int 16))) mNil)) (mC (.int 25))) [5])) sNext) (sRet (mIf (mB (mBin fLt (mBin fMod (mVar 1) (mC (.int 16))) (mC (.int 12)))) (mVar 2) (mBin fIx (mLst (mCons (mLst mNil) (mCons (mBi fTuple (mConsT (mVar 2) mNilT)) (mCons (mC .non) (mCons (mC (.int 5)) (mCons (mC (.str "00")) (mCons mDict0 (mCons (mLst (mCons (mC (.int 5)) mNil)) mNil)))))))) (mBin fMod (mBin fFdiv (mVar 1) (mC (.int 16))) (mC (.int 7)))))))))))))))
noncomputable def m_law_spoilt : List W → GH → R W := mDef 7 b_law_spoilt
theorem ok_law_spoilt {f : Addr} {fd : FuncData} {dvs : List V} (F : FunD K "_law_spoilt" "_law_spoilt" (defArgs s_law_spoilt) (defBody s_law_spoilt) (defScope s_law_spoilt) dvs [] f fd) (T : Tx K mg ca) (C_law_copied : Callable P w K mg base ca 1 "_law_copied" P_law_copied [] m_law_copied) (C_law_odd : Callable P w K mg base ca 1 "_law_odd" P_law_odd [] m_law_odd) : FnOk P w K mg base (L2N.CX P w) 2 f fd P_law_spoilt (spM K ca 2 m_law_spoilt) := by
  refine def_okD (N := N_law_spoilt) F sc_law_spoilt fun cdv A outer s H E hr => ?_
  have hu := hr.units
  have hu5 := hu_five hr
  have tk : L2N.Takes (cxOf (L2N.CX P w) P w K mg base N_law_spoilt "_law_spoilt" (defScope s_law_spoilt) f cdv A outer s H E) (fun c d _ H => E c d H) := L2N.takes_of rfl rfl rfl rfl
  exact (b_cons (s_set (i := 2) sc_law_spoilt.nd rfl (.inl rfl) (s_call C_law_copied (hr.mono (by decide)) (by rfl) tk (a_cons (s_var (i := 0) rfl (.inl rfl)) a_nil) (len_dws (len_cons len_nil) rfl))) (b_cons (s_set (i := 4) sc_law_spoilt.nd rfl (.inl rfl) (s_bin op_mod says_mod (s_bin op_fdivW says_fdiv (s_var (i := 1) rfl (.inr (.inl rfl))) s_int) (s_bi call_len says_len (by rfl) T.n_len bt_len (c_cons (s_var (i := 2) rfl (.inl rfl)) c_nil)))) (b_cons (s_set (i := 3) sc_law_spoilt.nd rfl (.inr rfl) (s_ix (s_var (i := 2) rfl (.inl rfl)) (s_var (i := 4) rfl (.inl rfl)))) (b_cons (s_if (s_testCmp op_lt says_C (s_bin op_mod says_mod (s_var (i := 1) rfl (.inr (.inl rfl))) s_int) s_int (nomark _)) (b_cons (s_put (s_var (i := 3) rfl (.inr (.inl rfl))) (s_bin op_mod says_mod (s_bin op_fdivW says_fdiv (s_var (i := 1) rfl (.inr (.inl rfl))) s_int) (s_bi call_len says_len (by rfl) T.n_len bt_len (c_cons (s_var (i := 3) rfl (.inr (.inl rfl))) c_nil))) (s_call C_law_odd (hr.mono (by decide)) (by rfl) tk (a_cons (s_bin op_fdivW says_fdiv (s_var (i := 1) rfl (.inr (.inl rfl))) s_int) a_nil) (len_dws (len_cons len_nil) rfl))) (b_one (s_ret (s_var (i := 2) rfl (.inl rfl))))) b_nil) (b_cons (s_if (s_testCmp (op_eqA hu) says_eq (s_bin op_mod says_mod (s_var (i := 1) rfl (.inr (.inl rfl))) s_int) s_int (nomark _)) (b_one (s_put (s_var (i := 2) rfl (.inl rfl)) (s_var (i := 4) rfl (.inl rfl)) (s_ix (s_lst (a_cons (s_bin op_addA says_add (s_var (i := 3) rfl (.inr (.inl rfl))) (s_lst (a_cons s_int a_nil))) (a_cons (s_sl (s_var (i := 3) rfl (.inr (.inl rfl))) (o_some s_int) o_none) a_nil))) (s_bin op_mod says_mod (s_bin op_fdivW says_fdiv (s_var (i := 1) rfl (.inr (.inl rfl))) s_int) s_int)))) b_nil) (b_cons (s_if (s_testCmp (op_eqA hu) says_eq (s_bin op_mod says_mod (s_var (i := 1) rfl (.inr (.inl rfl))) s_int) s_int (nomark _)) (b_one (s_put (s_var (i := 2) rfl (.inl rfl)) (s_var (i := 4) rfl (.inl rfl)) (s_ix (s_lst (a_cons (s_bty call_tuple_of says_tuple (by rfl) T.n_tuple bt_tuple (c_cons (s_var (i := 3) rfl (.inr (.inl rfl))) c_nil)) (a_cons s_non (a_cons s_str (a_cons s_int (a_cons s_dict0 a_nil)))))) (s_bin op_mod says_mod (s_bin op_fdivW says_fdiv (s_var (i := 1) rfl (.inr (.inl rfl))) s_int) s_int)))) b_nil) (b_cons (s_if (s_testCmp (op_eqA hu) says_eq (s_bin op_mod says_mod (s_var (i := 1) rfl (.inr (.inl rfl))) s_int) s_int (nomark _)) (b_one (s_ret (s_lc (own := [("_law_one", 5)]) rfl sc_law_spoilt.nd (i_any (s_var (i := 2) rfl (.inl rfl))) (blkOk_by (N := N_law_spoilt) (sc := defScope s_law_spoilt) (by decide +kernel)) (fun _ _ _ _ _ => (pg_name (i := 5) sc_law_spoilt.nd rfl (by first | exact .inl rfl | exact .inr rfl))) tgt_name (own_name (by decide)) (fun _ _ _ _ _ => ts_nil) (fun _ _ _ _ _ => (s_lst a_nil))))) b_nil) (b_cons (s_if (s_testCmp (op_eqA hu) says_eq (s_bin op_mod says_mod (s_var (i := 1) rfl (.inr (.inl rfl))) s_int) s_int (nomark _)) (b_one (s_ret (s_lc (own := [("_law_k", 6)]) rfl sc_law_spoilt.nd (i_range1 (by rfl) T.n_range (a_cons s_int a_nil)) (blkOk_by (N := N_law_spoilt) (sc := defScope s_law_spoilt) (by decide +kernel)) (fun _ _ _ _ _ => (pg_name (i := 6) sc_law_spoilt.nd rfl (by first | exact .inl rfl | exact .inr rfl))) tgt_name (own_name (by decide)) (fun _ _ _ _ _ => ts_nil) (fun _ _ _ _ _ => (s_bty call_list_of says_list (by rfl) T.n_list bt_list (c_cons (s_var (i := 3) rfl (by first | exact .inr (.inl rfl) | exact .inr (.inr rfl) | exact .inl rfl)) c_nil)))))) b_nil) (b_cons (s_if (s_testCmp (op_eqA hu) says_eq (s_bin op_mod says_mod (s_var (i := 1) rfl (.inr (.inl rfl))) s_int) s_int (nomark _)) (b_one (s_ret (s_lc (own := [("_law_one", 5)]) rfl sc_law_spoilt.nd (i_any (s_var (i := 2) rfl (.inl rfl))) (blkOk_by (N := N_law_spoilt) (sc := defScope s_law_spoilt) (by decide +kernel)) (fun _ _ _ _ _ => (pg_name (i := 5) sc_law_spoilt.nd rfl (by first | exact .inl rfl | exact .inr rfl))) tgt_name (own_name (by decide)) (fun _ _ _ _ _ => ts_nil) (fun _ _ _ _ _ => (s_bin op_mulA says_mul (s_lst (a_cons (s_bin op_mod says_mod (s_bin op_fdivW says_fdiv (s_var (i := 1) rfl (by first | exact .inr (.inl rfl) | exact .inr (.inr rfl) | exact .inl rfl)) s_int) s_int) a_nil)) s_int))))) b_nil) (b_one (s_ret (s_ife (s_testCmp op_lt says_C (s_bin op_mod says_mod (s_var (i := 1) rfl (.inr (.inl rfl))) s_int) s_int (nomark _)) (s_var (i := 2) rfl (.inl rfl)) (s_ix (s_lst (a_cons (s_lst a_nil) (a_cons (s_bty call_tuple_of says_tuple (by rfl) T.n_tuple bt_tuple (c_cons (s_var (i := 2) rfl (.inl rfl)) c_nil)) (a_cons s_non (a_cons s_int (a_cons s_str (a_cons s_dict0 (a_cons (s_lst (a_cons s_int a_nil)) a_nil)))))))) (s_bin op_mod says_mod (s_bin op_fdivW says_fdiv (s_var (i := 1) rfl (.inr (.inl rfl))) s_int) s_int))))))))))))))
abbrev s_law_is_cell : Stmt := topS 25
abbrev N_law_is_cell : List Str := ["_law_thing"]
abbrev P_law_is_cell : List Str := ["_law_thing"]
theorem sc_law_is_cell : FnScope N_law_is_cell P_law_is_cell (defScope s_law_is_cell) := ⟨rfl, rfl, rfl, by decide +kernel, rfl, by decide +kernel, by decide +kernel⟩
noncomputable def b_law_is_cell : MS :=
  (sRet (mAndV (mBi fIsi (mConsT (mVar 0) (mConsT (mC (.ty "int")) mNilT))) (mAndV (mNotV (mBi fIsi (mConsT (mVar 0) (mConsT (mC (.ty "bool")) mNilT)))) (mChain fLe fLt (mC (.int 0)) (mVar 0) (mC (.int 16))))))
noncomputable def m_law_is_cell : List W → GH → R W := mDef 1 b_law_is_cell
theorem ok_law_is_cell {f : Addr} {fd : FuncData} {dvs : List V} (F : FunD K "_law_is_cell" "_law_is_cell" (defArgs s_law_is_cell) (defBody s_law_is_cell) (defScope s_law_is_cell) dvs [] f fd) (T : Tx K mg ca) : FnOk P w K mg base (L2N.CX P w) 1 f fd P_law_is_cell (spM K ca 1 m_law_is_cell) := by
  refine def_okD (N := N_law_is_cell) F sc_law_is_cell fun cdv A outer s H E hr => ?_
  have hu := hr.units
  have hu5 := hu_five hr
  have tk : L2N.Takes (cxOf (L2N.CX P w) P w K mg base N_law_is_cell "_law_is_cell" (defScope s_law_is_cell) f cdv A outer s H E) (fun c d _ H => E c d H) := L2N.takes_of rfl rfl rfl rfl
  exact (b_one (s_ret (v_and (s_bi call_isi says_isi (by rfl) T.n_isinstance bt_isinstance (c_cons (s_var (i := 0) rfl (.inl rfl)) (c_cons (s_ty (by rfl) T.n_int bt_int) c_nil))) (v_and (v_not (s_bi call_isi says_isi (by rfl) T.n_isinstance bt_isinstance (c_cons (s_var (i := 0) rfl (.inl rfl)) (c_cons (s_ty (by rfl) T.n_bool bt_bool) c_nil)))) (v_one (s_chain op_le op_lt says_C says_C s_int (s_var (i := 0) rfl (.inl rfl)) s_int))))))
abbrev s_law_good : Stmt := topS 26
abbrev N_law_good : List Str := ["_law_thing", "_law_row", "_law_cell"]
abbrev P_law_good : List Str := ["_law_thing"]
theorem sc_law_good : FnScope N_law_good P_law_good (defScope s_law_good) := ⟨rfl, rfl, rfl, by decide +kernel, rfl, by decide +kernel, by decide +kernel⟩
noncomputable def b_law_good : MS :=
  (sSeq (sIf (mOr (mNot (mTru (mBi fIsi (mConsT (mVar 0) (mConsT (mC (.ty "list")) mNilT))))) (mNot (mB (mChain fLt fLt (mC (.int 0)) (mBi fLen (mConsT (mVar 0) mNilT)) (mC (.int 25)))))) (sRet (mC (.bl false))) sNext) (sSeq (sIf (mOr (mB (mBin fNe (mComp (miA (mVar 0)) (gN 1) (mNot (mTru (mBi fIsi (mConsT (mVar 1) (mConsT (mC (.ty "list")) mNilT))))) (mVar 1) [1]) (mLst mNil))) (mNot (mB (mChain fLt fLt (mC (.int 0)) (mBi fLen (mConsT (mBin fIx (mVar 0) (mC (.int 0))) mNilT)) (mC (.int 25)))))) (sRet (mC (.bl false))) sNext) (sSeq (sFor (miA (mVar 0)) (gN 1) (sIf (mOr (mB (mBin fNe (mBi fLen (mConsT (mVar 1) mNilT)) (mBi fLen (mConsT (mBin fIx (mVar 0) (mC (.int 0))) mNilT)))) (mB (mBin fNe (mComp (miA (mVar 1)) (gN 2) (mNot (mTru (mCall m_law_is_cell [] (mCons (mVar 2) mNil)))) (mVar 2) [2]) (mLst mNil)))) (sRet (mC (.bl false))) sNext)) (sRet (mC (.bl true))))))
noncomputable def m_law_good : List W → GH → R W := mDef 3 b_law_good
theorem ok_law_good {f : Addr} {fd : FuncData} {dvs : List V} (F : FunD K "_law_good" "_law_good" (defArgs s_law_good) (defBody s_law_good) (defScope s_law_good) dvs [] f fd) (T : Tx K mg ca) (C_law_is_cell : Callable P w K mg base ca 1 "_law_is_cell" P_law_is_cell [] m_law_is_cell) : FnOk P w K mg base (L2N.CX P w) 2 f fd P_law_good (spM K ca 1 m_law_good) := by
  refine def_okD (N := N_law_good) F sc_law_good fun cdv A outer s H E hr => ?_
  have hu := hr.units
  have hu5 := hu_five hr
  have tk : L2N.Takes (cxOf (L2N.CX P w) P w K mg base N_law_good "_law_good" (defScope s_law_good) f cdv A outer s H E) (fun c d _ H => E c d H) := L2N.takes_of rfl rfl rfl rfl
  exact (b_cons (s_if (PW.pt (w_or (s_tnot (s_truth (s_bi call_isi says_isi (by rfl) T.n_isinstance bt_isinstance (c_cons (s_var (i := 0) rfl (.inl rfl)) (c_cons (s_ty (by rfl) T.n_list bt_list) c_nil))))) (w_or1 (s_tnot (s_testChain op_lt op_lt says_C says_C s_int (s_bi call_len says_len (by rfl) T.n_len bt_len (c_cons (s_var (i := 0) rfl (.inl rfl)) c_nil)) s_int))))) (b_one (s_ret s_bl)) b_nil) (b_cons (s_if (PW.pt (w_or (s_testCmp (op_neA hu) says_ne (s_lc (own := [("_law_row", 1)]) rfl sc_law_good.nd (i_any (s_var (i := 0) rfl (.inl rfl))) (blkOk_by (N := N_law_good) (sc := defScope s_law_good) (by decide +kernel)) (fun _ _ _ _ _ => (pg_name (i := 1) sc_law_good.nd rfl (by first | exact .inl rfl | exact .inr rfl))) tgt_name (own_name (by decide)) (fun _ _ _ _ _ => (ts_one (s_tnot (s_truth (s_bi call_isi says_isi (by rfl) T.n_isinstance bt_isinstance (c_cons (s_var (i := 1) rfl (by first | exact .inl rfl | exact .inr (.inl rfl))) (c_cons (s_ty (by rfl) T.n_list bt_list) c_nil))))))) (fun _ _ _ _ _ => (s_var (i := 1) rfl (by first | exact .inl rfl | exact .inr (.inl rfl))))) (s_lst a_nil) (nomark _)) (w_or1 (s_tnot (s_testChain op_lt op_lt says_C says_C s_int (s_bi call_len says_len (by rfl) T.n_len bt_len (c_cons (s_ix (s_var (i := 0) rfl (.inl rfl)) s_int) c_nil)) s_int))))) (b_one (s_ret s_bl)) b_nil) (b_cons (s_for (passes_of rfl) rfl (i_any (s_var (i := 0) rfl (.inl rfl))) (g_name (i := 1) sc_law_good.nd rfl (.inl rfl)) (b_one (s_if (PW.pt (w_or (s_testCmp (op_neA hu) says_ne (s_bi call_len says_len (by rfl) T.n_len bt_len (c_cons (s_var (i := 1) rfl (.inl rfl)) c_nil)) (s_bi call_len says_len (by rfl) T.n_len bt_len (c_cons (s_ix (s_var (i := 0) rfl (.inl rfl)) s_int) c_nil)) (nomark _)) (w_or1 (s_testCmp (op_neA hu) says_ne (s_lc (own := [("_law_cell", 2)]) rfl sc_law_good.nd (i_any (s_var (i := 1) rfl (.inl rfl))) (blkOk_by (N := N_law_good) (sc := defScope s_law_good) (by decide +kernel)) (fun _ _ _ _ _ => (pg_name (i := 2) sc_law_good.nd rfl (by first | exact .inl rfl | exact .inr rfl))) tgt_name (own_name (by decide)) (fun _ _ _ _ _ => (ts_one (s_tnot (s_truth (s_call C_law_is_cell (hr.mono (by decide)) (by rfl) takesN (a_cons (s_var (i := 2) rfl (by first | exact .inl rfl | exact .inr (.inl rfl))) a_nil) (len_dws (len_cons len_nil) rfl)))))) (fun _ _ _ _ _ => (s_var (i := 2) rfl (by first | exact .inl rfl | exact .inr (.inl rfl))))) (s_lst a_nil) (nomark _))))) (b_one (s_ret s_bl)) b_nil))) (b_one (s_ret s_bl)))))
abbrev s_law_refused : Stmt := topS 27
abbrev N_law_refused : List Str := ["_law_thing", "_law_refused_here", "_law_way", "e"]
abbrev P_law_refused : List Str := ["_law_thing"]
theorem sc_law_refused : FnScope N_law_refused P_law_refused (defScope s_law_refused) := ⟨rfl, rfl, rfl, by decide +kernel, rfl, by decide +kernel, by decide +kernel⟩
noncomputable def b_law_refused : MS :=
  (sSeq (sSet 1 (mC (.int 0))) (sSeq (sFor (miR (mCons (mC (.int 2)) mNil)) (gN 2) (sTry xt 0 3 (sIf (mB (mBin fEq (mVar 2) (mC (.int 0)))) (sDrop (mCall m_need_picture [] (mCons (mVar 0) mNil))) (sDrop (mCall m_size_of [] (mCons (mVar 0) mNil)))) (fun c a => (sSet 1 (mBin fAdd (mVar 1) (mBi fInt (mConsT (mAndV (mBi (fIsE it c a) (mConsT (mVar 3) (mConsT (mC (.cls 1)) mNilT))) (mBi (fIsE it c a) (mConsT (mVar 3) (mConsT (mC (.ty "ValueError")) mNilT)))) mNilT))))))) (sRet (mBin fEq (mVar 1) (mC (.int 2))))))
noncomputable def m_law_refused : List W → GH → R W := mDef 4 b_law_refused
theorem ok_law_refused {f : Addr} {fd : FuncData} {dvs : List V} (F : FunD K "_law_refused" "_law_refused" (defArgs s_law_refused) (defBody s_law_refused) (defScope s_law_refused) dvs [] f fd) (T : Tx K mg ca) (C_need_picture : Callable P w K mg base ca 5 "need_picture" P_need_picture [] m_need_picture) (C_size_of : Callable P w K mg base ca 6 "size_of" P_size_of [] m_size_of) : FnOk P w K mg base (L2N.CX P w) 7 f fd P_law_refused (spM K ca 1 m_law_refused) := by
  refine def_okD (N := N_law_refused) F sc_law_refused fun cdv A outer s H E hr => ?_
  have hu := hr.units
  have hu5 := hu_five hr
  have tk : L2N.Takes (cxOf (L2N.CX P w) P w K mg base N_law_refused "_law_refused" (defScope s_law_refused) f cdv A outer s H E) (fun c d _ H => E c d H) := L2N.takes_of rfl rfl rfl rfl
  exact (b_cons (s_set (i := 1) sc_law_refused.nd rfl (.inl rfl) s_int) (b_cons (s_for (passes_of rfl) rfl (i_range1 (by rfl) T.n_range (a_cons s_int a_nil)) (g_name (i := 2) sc_law_refused.nd rfl (.inl rfl)) (b_one (s_try (i := 3) T.E rfl rfl sc_law_refused.nd rfl rfl ⟨by rfl, by decide, .inl T.g_FolioError⟩ tk (fun W pn xe tk pass => (b_one (s_if (s_testCmp (op_eqA hu) says_eq (s_var (i := 2) rfl (.inl rfl)) s_int (nomark _)) (b_one (s_expr (s_call C_need_picture (hr.mono (by decide)) (by rfl) tk (a_cons (s_var (i := 0) rfl (.inl rfl)) a_nil) (len_dws (len_cons len_nil) rfl)))) (b_one (s_expr (s_call C_size_of (hr.mono (by decide)) (by rfl) tk (a_cons (s_var (i := 0) rfl (.inl rfl)) a_nil) (len_dws (len_cons len_nil) rfl))))))) (fun c a oe pn hx => (b_one (s_set (i := 1) sc_law_refused.nd rfl (.inl rfl) (s_bin op_addA says_add (s_var (i := 1) rfl (.inl rfl)) (s_bty call_int1 says_int (by rfl) T.n_int bt_int (c_cons (v_and (s_bi (call_isX' hx) (says_isE T.E) (by rfl) T.n_isinstance bt_isinstance (c_cons (s_var (i := 3) rfl (.inl rfl)) (c_cons (s_glob (by rfl) (konW_cls T.g_BadPicture)) c_nil))) (v_one (s_bi (call_isX' hx) (says_isE T.E) (by rfl) T.n_isinstance bt_isinstance (c_cons (s_var (i := 3) rfl (.inl rfl)) (c_cons (s_ty (by rfl) T.n_ValueError bt_ValueError) c_nil))))) c_nil))))))))) (b_one (s_ret (s_cmp (op_eqA hu) says_eq (s_var (i := 1) rfl (.inl rfl)) s_int (nomark _))))))
abbrev s_law_blank : Stmt := topS 28
abbrev N_law_blank : List Str := ["_law_wide", "_law_high", "_law_cell", "_law_found", "e"]
abbrev P_law_blank : List Str := ["_law_wide", "_law_high", "_law_cell"]
theorem sc_law_blank : FnScope N_law_blank P_law_blank (defScope s_law_blank) := ⟨rfl, rfl, rfl, by decide +kernel, rfl, by decide +kernel, by decide +kernel⟩
noncomputable def b_law_blank : MS :=
  (sSeq (sTry xt 0 4 (sSet 3 (mCall m_blank_picture [] (mCons (mVar 0) (mCons (mVar 1) (mCons (mVar 2) mNil))))) (fun c a => (sRet (mTup (mCons (mC (.str "refused")) (mCons (mBi (fIsE it c a) (mConsT (mVar 4) (mConsT (mC (.cls 3)) mNilT))) (mCons (mBi (fIsE it c a) (mConsT (mVar 4) (mConsT (mC (.cls 2)) mNilT))) (mCons (mBi (fIsE it c a) (mConsT (mVar 4) (mConsT (mC (.ty "ValueError")) mNilT))) mNil)))))))) (sRet (mVar 3)))
noncomputable def m_law_blank : List W → GH → R W := mDef 5 b_law_blank
theorem ok_law_blank {f : Addr} {fd : FuncData} {dvs : List V} (F : FunD K "_law_blank" "_law_blank" (defArgs s_law_blank) (defBody s_law_blank) (defScope s_law_blank) dvs [] f fd) (T : Tx K mg ca) (C_blank_picture : Callable P w K mg base ca 4 "blank_picture" P_blank_picture [] m_blank_picture) : FnOk P w K mg base (L2N.CX P w) 5 f fd P_law_blank (spM K ca 3 m_law_blank) := by
  refine def_okD (N := N_law_blank) F sc_law_blank fun cdv A outer s H E hr => ?_
  have hu := hr.units
  have hu5 := hu_five hr
  have tk : L2N.Takes (cxOf (L2N.CX P w) P w K mg base N_law_blank "_law_blank" (defScope s_law_blank) f cdv A outer s H E) (fun c d _ H => E c d H) := L2N.takes_of rfl rfl rfl rfl
  exact (b_cons (s_try (i := 4) T.E rfl rfl sc_law_blank.nd rfl rfl ⟨by rfl, by decide, .inl T.g_FolioError⟩ tk (fun W pn xe tk pass => (b_one (s_set (i := 3) sc_law_blank.nd rfl (.inl rfl) (s_call C_blank_picture (hr.mono (by decide)) (by rfl) tk (a_cons (s_var (i := 0) rfl (.inl rfl)) (a_cons (s_var (i := 1) rfl (.inl rfl)) (a_cons (s_var (i := 2) rfl (.inl rfl)) a_nil))) (len_dws (len_cons (len_cons (len_cons len_nil))) rfl))))) (fun c a oe pn hx => (b_one (s_ret (s_tup (a_cons s_str (a_cons (s_bi (call_isX' hx) (says_isE T.E) (by rfl) T.n_isinstance bt_isinstance (c_cons (s_var (i := 4) rfl (.inl rfl)) (c_cons (s_glob (by rfl) (konW_cls T.g_BadSize)) c_nil))) (a_cons (s_bi (call_isX' hx) (says_isE T.E) (by rfl) T.n_isinstance bt_isinstance (c_cons (s_var (i := 4) rfl (.inl rfl)) (c_cons (s_glob (by rfl) (konW_cls T.g_BadCell)) c_nil))) (a_cons (s_bi (call_isX' hx) (says_isE T.E) (by rfl) T.n_isinstance bt_isinstance (c_cons (s_var (i := 4) rfl (.inl rfl)) (c_cons (s_ty (by rfl) T.n_ValueError bt_ValueError) c_nil))) a_nil))))))))) (b_one (s_ret (s_var (i := 3) rfl (.inl rfl)))))
abbrev s_law_blanks_right : Stmt := topS 29
abbrev N_law_blanks_right : List Str := ["_law_cell", "_law_other", "_law_due", "_law_far", "_law_found", "_law_good_here", "_law_hue", "_law_k", "_law_sides", "_law_y", "_law_side", "_law_row"]
abbrev P_law_blanks_right : List Str := ["_law_cell", "_law_other"]
theorem sc_law_blanks_right : FnScope N_law_blanks_right P_law_blanks_right (defScope s_law_blanks_right) := ⟨rfl, rfl, rfl, by decide +kernel, rfl, by decide +kernel, by decide +kernel⟩
noncomputable def b_law_blanks_right : MS :=
  (sSeq (sSet 8 (mLst mNil)) (sSeq (sFor (miR (mCons (mC (.int 2)) mNil)) (gN 7) (sSeq (sSet 3 (mBin fMod (mBin fFdiv (mVar 0) (mBin fIx (mLst (mCons (mC (.int 1)) (mCons (mC (.int 300)) mNil))) (mVar 7))) (mC (.int 300)))) (sDrop (mMtF isLst fApp (mVar 8) (mCons (mIf (mB (mBin fLt (mVar 3) (mC (.int 260)))) (mBin fAdd (mC (.int 1)) (mBin fMod (mVar 3) (mC (.int 24)))) (mBin fIx (mLst (mCons (mC (.int 0)) (mCons (mC (.int 25)) (mCons (mUn fNeg (mC (.int 1))) (mCons (mC (.bl true)) (mCons (mC .non) (mCons (mC (.str "3")) (mCons (mBin fPow (mC (.int 10)) (mC (.int 20))) mNil)))))))) (mBin fMod (mVar 3) (mC (.int 7))))) mNil))))) (sSeq (sSet 6 (mIf (mB (mBin fGt (mBin fMod (mVar 1) (mC (.int 3))) (mC (.int 0)))) (mBin fMod (mBin fFdiv (mVar 1) (mC (.int 3))) (mC (.int 16))) (mCall m_law_odd [] (mCons (mBin fFdiv (mVar 1) (mC (.int 3))) mNil)))) (sSeq (sSet 5 (mBin fEq (mComp (miA (mVar 8)) (gN 10) mYes (mAndV (mBi fIsi (mConsT (mVar 10) (mConsT (mC (.ty "int")) mNilT))) (mAndV (mNotV (mBi fIsi (mConsT (mVar 10) (mConsT (mC (.ty "bool")) mNilT)))) (mChain fLt fLt (mC (.int 0)) (mVar 10) (mC (.int 25))))) [10]) (mLst (mCons (mC (.bl true)) (mCons (mC (.bl true)) mNil))))) (sSeq (sSet 4 (mCall m_law_blank [] (mCons (mBin fIx (mVar 8) (mC (.int 0))) (mCons (mBin fIx (mVar 8) (mC (.int 1))) (mCons (mVar 6) mNil))))) (sSeq (sIf (mNot (mTru (mVar 5))) (sRet (mBin fEq (mVar 4) (mTup (mCons (mC (.str "refused")) (mCons (mC (.bl true)) (mCons (mC (.bl false)) (mCons (mC (.bl true)) mNil))))))) sNext) (sSeq (sIf (mNot (mTru (mCall m_law_is_cell [] (mCons (mVar 6) mNil)))) (sRet (mBin fEq (mVar 4) (mTup (mCons (mC (.str "refused")) (mCons (mC (.bl false)) (mCons (mC (.bl true)) (mCons (mC (.bl true)) mNil))))))) sNext) (sSeq (sSet 2 (mComp (miR (mCons (mBin fIx (mVar 8) (mC (.int 1))) mNil)) (gN 9) mYes (mBin fMul (mLst (mCons (mVar 6) mNil)) (mBin fIx (mVar 8) (mC (.int 0)))) [9])) (sSeq (sIf (mNot (mTru (mCall m_law_is_like [] (mCons (mVar 4) (mCons (mVar 2) mNil))))) (sRet (mC (.bl false))) sNext) (sRet (mCall m_law_is_like [] (mCons (mCall m_blank_picture [.int 0] (mCons (mBin fIx (mVar 8) (mC (.int 0))) (mCons (mBin fIx (mVar 8) (mC (.int 1))) mNil))) (mCons (mComp (miA (mVar 2)) (gN 11) mYes (mBin fMul (mLst (mCons (mC (.int 0)) mNil)) (mBin fIx (mVar 8) (mC (.int 0)))) [11]) mNil)))))))))))))
noncomputable def m_law_blanks_right : List W → GH → R W := mDef 12 b_law_blanks_right
theorem ok_law_blanks_right {f : Addr} {fd : FuncData} {dvs : List V} (F : FunD K "_law_blanks_right" "_law_blanks_right" (defArgs s_law_blanks_right) (defBody s_law_blanks_right) (defScope s_law_blanks_right) dvs [] f fd) (T : Tx K mg ca) (C_law_blank : Callable P w K mg base ca 5 "_law_blank" P_law_blank [] m_law_blank) (C_law_is_cell : Callable P w K mg base ca 1 "_law_is_cell" P_law_is_cell [] m_law_is_cell) (C_law_is_like : Callable P w K mg base ca 1 "_law_is_like" P_law_is_like [] m_law_is_like) (C_law_odd : Callable P w K mg base ca 1 "_law_odd" P_law_odd [] m_law_odd) (C_blank_picture_d1 : Callable P w K mg base ca 4 "blank_picture" P_blank_picture [.int 0] m_blank_picture) : FnOk P w K mg base (L2N.CX P w) 6 f fd P_law_blanks_right (spM K ca 2 m_law_blanks_right) := by
  refine def_okD (N := N_law_blanks_right) F sc_law_blanks_right fun cdv A outer s H E hr => ?_
  have hu := hr.units
  have hu5 := hu_five hr
  have tk : L2N.Takes (cxOf (L2N.CX P w) P w K mg base N_law_blanks_right "_law_blanks_right" (defScope s_law_blanks_right) f cdv A outer s H E) (fun c d _ H => E c d H) := L2N.takes_of rfl rfl rfl rfl
  exact (b_cons (s_set (i := 8) sc_law_blanks_right.nd rfl (.inr rfl) (s_lst a_nil)) (b_cons (s_for (passes_of rfl) rfl (i_range1 (by rfl) T.n_range (a_cons s_int a_nil)) (g_name (i := 7) sc_law_blanks_right.nd rfl (.inl rfl)) (b_cons (s_set (i := 3) sc_law_blanks_right.nd rfl (.inl rfl) (s_bin op_mod says_mod (s_bin op_fdivW says_fdiv (s_var (i := 0) rfl (.inl rfl)) (s_ix (s_lst (a_cons s_int (a_cons s_int a_nil))) (s_var (i := 7) rfl (.inl rfl)))) s_int)) (b_one (s_expr (s_mtF PySem.F.plainAttrs_list PySem.F.slot_list_append PySem.F.type_list_append mt_append says_app ty_list (s_var (i := 8) rfl (.inr (.inl rfl))) (a_cons (s_ife (s_testCmp op_lt says_C (s_var (i := 3) rfl (.inl rfl)) s_int (nomark _)) (s_bin op_addA says_add s_int (s_bin op_mod says_mod (s_var (i := 3) rfl (.inl rfl)) s_int)) (s_ix (s_lst (a_cons s_int (a_cons s_int (a_cons (s_neg s_int) (a_cons s_bl (a_cons s_non (a_cons s_str (a_cons (s_bin op_pow says_pow s_int s_int) a_nil)))))))) (s_bin op_mod says_mod (s_var (i := 3) rfl (.inl rfl)) s_int))) a_nil)))))) (b_cons (s_set (i := 6) sc_law_blanks_right.nd rfl (.inr rfl) (s_ife (s_testCmp op_gt says_C (s_bin op_mod says_mod (s_var (i := 1) rfl (.inl rfl)) s_int) s_int (nomark _)) (s_bin op_mod says_mod (s_bin op_fdivW says_fdiv (s_var (i := 1) rfl (.inl rfl)) s_int) s_int) (s_call C_law_odd (hr.mono (by decide)) (by rfl) tk (a_cons (s_bin op_fdivW says_fdiv (s_var (i := 1) rfl (.inl rfl)) s_int) a_nil) (len_dws (len_cons len_nil) rfl)))) (b_cons (s_set (i := 5) sc_law_blanks_right.nd rfl (.inl rfl) (s_cmp (op_eqA hu) says_eq (s_lc (own := [("_law_side", 10)]) rfl sc_law_blanks_right.nd (i_any (s_var (i := 8) rfl (.inr (.inl rfl)))) (blkOk_by (N := N_law_blanks_right) (sc := defScope s_law_blanks_right) (by decide +kernel)) (fun _ _ _ _ _ => (pg_name (i := 10) sc_law_blanks_right.nd rfl (by first | exact .inl rfl | exact .inr rfl))) tgt_name (own_name (by decide)) (fun _ _ _ _ _ => ts_nil) (fun _ _ _ _ _ => (v_and (s_bi call_isi says_isi (by rfl) T.n_isinstance bt_isinstance (c_cons (s_var (i := 10) rfl (by first | exact .inl rfl | exact .inr (.inl rfl))) (c_cons (s_ty (by rfl) T.n_int bt_int) c_nil))) (v_and (v_not (s_bi call_isi says_isi (by rfl) T.n_isinstance bt_isinstance (c_cons (s_var (i := 10) rfl (by first | exact .inl rfl | exact .inr (.inl rfl))) (c_cons (s_ty (by rfl) T.n_bool bt_bool) c_nil)))) (v_one (s_chain op_lt op_lt says_C says_C s_int (s_var (i := 10) rfl (by first | exact .inl rfl | exact .inr (.inl rfl))) s_int)))))) (s_lst (a_cons s_bl (a_cons s_bl a_nil))) (nomark _))) (b_cons (s_set (i := 4) sc_law_blanks_right.nd rfl (.inl rfl) (s_call C_law_blank (hr.mono (by decide)) (by rfl) tk (a_cons (s_ix (s_var (i := 8) rfl (.inr (.inl rfl))) s_int) (a_cons (s_ix (s_var (i := 8) rfl (.inr (.inl rfl))) s_int) (a_cons (s_var (i := 6) rfl (.inr (.inl rfl))) a_nil))) (len_dws (len_cons (len_cons (len_cons len_nil))) rfl))) (b_cons (s_if (s_tnot (s_truth (s_var (i := 5) rfl (.inl rfl)))) (b_one (s_ret (s_cmp (op_eqA hu) says_eq (s_var (i := 4) rfl (.inl rfl)) (s_tup (a_cons s_str (a_cons s_bl (a_cons s_bl (a_cons s_bl a_nil))))) (nomark _)))) b_nil) (b_cons (s_if (s_tnot (s_truth (s_call C_law_is_cell (hr.mono (by decide)) (by rfl) tk (a_cons (s_var (i := 6) rfl (.inr (.inl rfl))) a_nil) (len_dws (len_cons len_nil) rfl)))) (b_one (s_ret (s_cmp (op_eqA hu) says_eq (s_var (i := 4) rfl (.inl rfl)) (s_tup (a_cons s_str (a_cons s_bl (a_cons s_bl (a_cons s_bl a_nil))))) (nomark _)))) b_nil) (b_cons (s_setLc (i := 2) (own := [("_law_y", 9)]) rfl sc_law_blanks_right.nd rfl rfl (sw_true rfl rfl rfl (by decide +kernel)) (i_range1 (by rfl) T.n_range (a_cons (s_ix (s_var (i := 8) rfl (.inr (.inl rfl))) s_int) a_nil)) (blkOk_by (N := N_law_blanks_right) (sc := defScope s_law_blanks_right) (by decide +kernel)) (fun _ _ _ _ _ => (pg_name (i := 9) sc_law_blanks_right.nd rfl (by first | exact .inl rfl | exact .inr rfl))) tgt_name (own_name (by decide)) (fun _ _ _ _ _ => ts_nil) (fun _ _ _ _ _ => (s_bin op_mulA says_mul (s_lst (a_cons (s_var (i := 6) rfl (by first | exact .inr (.inl rfl) | exact .inr (.inr rfl) | exact .inl rfl)) a_nil)) (s_ix (s_var (i := 8) rfl (by first | exact .inr (.inl rfl) | exact .inr (.inr rfl) | exact .inl rfl)) s_int)))) (b_cons (s_if (s_tnot (s_truth (s_call C_law_is_like (hr.mono (by decide)) (by rfl) tk (a_cons (s_var (i := 4) rfl (.inl rfl)) (a_cons (s_var (i := 2) rfl (.inl rfl)) a_nil)) (len_dws (len_cons (len_cons len_nil)) rfl)))) (b_one (s_ret s_bl)) b_nil) (b_one (s_ret (s_call C_law_is_like (hr.mono (by decide)) (by rfl) tk (a_cons (s_call C_blank_picture_d1 (hr.mono (by decide)) (by rfl) tk (a_cons (s_ix (s_var (i := 8) rfl (.inr (.inl rfl))) s_int) (a_cons (s_ix (s_var (i := 8) rfl (.inr (.inl rfl))) s_int) a_nil)) (len_dws (len_cons (len_cons len_nil)) rfl)) (a_cons (s_lc (own := [("_law_row", 11)]) rfl sc_law_blanks_right.nd (i_any (s_var (i := 2) rfl (.inl rfl))) (blkOk_by (N := N_law_blanks_right) (sc := defScope s_law_blanks_right) (by decide +kernel)) (fun _ _ _ _ _ => (pg_name (i := 11) sc_law_blanks_right.nd rfl (by first | exact .inl rfl | exact .inr rfl))) tgt_name (own_name (by decide)) (fun _ _ _ _ _ => ts_nil) (fun _ _ _ _ _ => (s_bin op_mulA says_mul (s_lst (a_cons s_int a_nil)) (s_ix (s_var (i := 8) rfl (by first | exact .inr (.inl rfl) | exact .inr (.inr rfl) | exact .inl rfl)) s_int)))) a_nil)) (len_dws (len_cons (len_cons len_nil)) rfl)))))))))))))
abbrev s_law : Stmt := topS 30
abbrev N_law : List Str := ["_law_script", "_law_cell", "_law_good_here", "_law_kept", "_law_one", "_law_ragged", "_law_sides", "_law_some", "_law_thing", "_law_told"]
abbrev P_law : List Str := ["_law_script"]
theorem sc_law : FnScope N_law P_law (defScope s_law) := ⟨rfl, rfl, rfl, by decide +kernel, rfl, by decide +kernel, by decide +kernel⟩
noncomputable def b_law : MS :=
  (sSeq (sSet 8 (mCall m_law_picture [] (mCons (mVar 0) (mCons (mC (.int 0)) (mCons (mC (.int 8)) mNil))))) (sSeq (sSet 1 (mCall m_law_cell_at [] (mCons (mVar 0) (mCons (mC (.int 3)) mNil)))) (sSeq (sIf (mB (mBin fGt (mBin fMod (mVar 1) (mC (.int 3))) (mC (.int 0)))) (sSet 8 (mCall m_law_spoilt [] (mCons (mVar 8) (mCons (mBin fFdiv (mVar 1) (mC (.int 3))) mNil)))) sNext) (sSeq (sSet 3 (mIf (mTru (mCall m_law_good [] (mCons (mVar 8) mNil))) (mCall m_law_copied [] (mCons (mVar 8) mNil)) (mVar 8))) (sSeq (sSet 2 (mCall m_law_good [] (mCons (mVar 8) mNil))) (sSeq (sSet 9 (mCall m_is_picture [] (mCons (mVar 8) mNil))) (sSeq (sIf (mOr (mNot (mTru (mBi fIsi (mConsT (mVar 9) (mConsT (mC (.ty "bool")) mNilT))))) (mOr (mB (mBin fNe (mVar 9) (mVar 2))) (mB (mBin fNe (mTup (mCons c_MOST_SIDE (mCons c_MOST_CELL mNil))) (mTup (mCons (mC (.int 24)) (mCons (mC (.int 15)) mNil))))))) (sRet (mC (.bl false))) sNext) (sSeq (sIf (mTru (mVar 2)) (sSeq (sSet 6 (mCall m_size_of [] (mCons (mVar 8) mNil))) (sIf (mOr (mB (mBin fIsNot (mCall m_need_picture [] (mCons (mVar 8) mNil)) (mC .non))) (mOr (mNot (mTru (mBi fIsi (mConsT (mVar 6) (mConsT (mC (.ty "tuple")) mNilT))))) (mB (mBin fNe (mVar 6) (mTup (mCons (mBi fLen (mConsT (mBin fIx (mVar 8) (mC (.int 0))) mNilT)) (mCons (mBi fLen (mConsT (mVar 8) mNilT)) mNil))))))) (sRet (mC (.bl false))) sNext)) (sIf (mNot (mTru (mCall m_law_refused [] (mCons (mVar 8) mNil)))) (sRet (mC (.bl false))) sNext)) (sSeq (sSet 7 (mLst (mCons (mCall m_law_odd [] (mCons (mCall m_law_cell_at [] (mCons (mVar 0) (mCons (mC (.int 4)) mNil))) mNil)) (mCons (mBin fMod (mCall m_law_cell_at [] (mCons (mVar 0) (mCons (mC (.int 4)) mNil))) (mC (.int 16))) (mCons (mBin fSub (mBin fMod (mCall m_law_cell_at [] (mCons (mVar 0) (mCons (mC (.int 4)) mNil))) (mC (.int 40))) (mC (.int 12))) mNil))))) (sSeq (sFor (miA (mVar 7)) (gN 4) (sSeq (sSet 9 (mCall m_is_cell [] (mCons (mVar 4) mNil))) (sIf (mOr (mNot (mTru (mBi fIsi (mConsT (mVar 9) (mConsT (mC (.ty "bool")) mNilT))))) (mB (mBin fNe (mVar 9) (mCall m_law_is_cell [] (mCons (mVar 4) mNil))))) (sRet (mC (.bl false))) sNext))) (sSeq (sSet 5 (mLst (mCons (mLst (mCons (mC (.int 1)) (mCons (mC (.int 2)) mNil))) (mCons (mLst (mCons (mC (.int 3)) (mCons (mC (.int 4)) (mCons (mC (.int 5)) mNil)))) (mCons (mLst (mCons (mC (.int 6)) mNil)) mNil))))) (sSeq (sIf (mOr (mB (mBin fIsNot (mCall m_is_picture [] (mCons (mVar 5) mNil)) (mC (.bl false)))) (mNot (mTru (mCall m_law_refused [] (mCons (mVar 5) mNil))))) (sRet (mC (.bl false))) sNext) (sRet (mAndV (mBin fEq (mVar 8) (mVar 3)) (mCall m_law_blanks_right [] (mCons (mCall m_law_cell_at [] (mCons (mVar 0) (mCons (mC (.int 5)) mNil))) (mCons (mCall m_law_cell_at [] (mCons (mVar 0) (mCons (mC (.int 6)) mNil))) mNil)))))))))))))))))
noncomputable def m_law : List W → GH → R W := mDef 10 b_law
theorem ok_law {f : Addr} {fd : FuncData} {dvs : List V} (F : FunD K "law" "law" (defArgs s_law) (defBody s_law) (defScope s_law) dvs [] f fd) (T : Tx K mg ca) (C_law_blanks_right : Callable P w K mg base ca 6 "_law_blanks_right" P_law_blanks_right [] m_law_blanks_right) (C_law_cell_at : Callable P w K mg base ca 1 "_law_cell_at" P_law_cell_at [] m_law_cell_at) (C_law_copied : Callable P w K mg base ca 1 "_law_copied" P_law_copied [] m_law_copied) (C_law_good : Callable P w K mg base ca 2 "_law_good" P_law_good [] m_law_good) (C_law_is_cell : Callable P w K mg base ca 1 "_law_is_cell" P_law_is_cell [] m_law_is_cell) (C_law_odd : Callable P w K mg base ca 1 "_law_odd" P_law_odd [] m_law_odd) (C_law_picture : Callable P w K mg base ca 2 "_law_picture" P_law_picture [] m_law_picture) (C_law_refused : Callable P w K mg base ca 7 "_law_refused" P_law_refused [] m_law_refused) (C_law_spoilt : Callable P w K mg base ca 2 "_law_spoilt" P_law_spoilt [] m_law_spoilt) (C_is_cell : Callable P w K mg base ca 2 "is_cell" P_is_cell [] m_is_cell) (C_is_picture : Callable P w K mg base ca 4 "is_picture" P_is_picture [] m_is_picture) (C_need_picture : Callable P w K mg base ca 5 "need_picture" P_need_picture [] m_need_picture) (C_size_of : Callable P w K mg base ca 6 "size_of" P_size_of [] m_size_of) : FnOk P w K mg base (L2N.CX P w) 8 f fd P_law (spM K ca 1 m_law) := by
  refine def_okD (N := N_law) F sc_law fun cdv A outer s H E hr => ?_
  have hu := hr.units
  have hu5 := hu_five hr
  have tk : L2N.Takes (cxOf (L2N.CX P w) P w K mg base N_law "law" (defScope s_law) f cdv A outer s H E) (fun c d _ H => E c d H) := L2N.takes_of rfl rfl rfl rfl
  exact (b_cons (s_set (i := 8) sc_law.nd rfl (.inl rfl) (s_call C_law_picture (hr.mono (by decide)) (by rfl) tk (a_cons (s_var (i := 0) rfl (.inl rfl)) (a_cons s_int (a_cons s_int a_nil))) (len_dws (len_cons (len_cons (len_cons len_nil))) rfl))) (b_cons (s_set (i := 1) sc_law.nd rfl (.inl rfl) (s_call C_law_cell_at (hr.mono (by decide)) (by rfl) tk (a_cons (s_var (i := 0) rfl (.inl rfl)) (a_cons s_int a_nil)) (len_dws (len_cons (len_cons len_nil)) rfl))) (b_cons (s_if (s_testCmp op_gt says_C (s_bin op_mod says_mod (s_var (i := 1) rfl (.inl rfl)) s_int) s_int (nomark _)) (b_one (s_set (i := 8) sc_law.nd rfl (.inl rfl) (s_call C_law_spoilt (hr.mono (by decide)) (by rfl) tk (a_cons (s_var (i := 8) rfl (.inl rfl)) (a_cons (s_bin op_fdivW says_fdiv (s_var (i := 1) rfl (.inl rfl)) s_int) a_nil)) (len_dws (len_cons (len_cons len_nil)) rfl)))) b_nil) (b_cons (s_set (i := 3) sc_law.nd rfl (.inl rfl) (s_ife (s_truth (s_call C_law_good (hr.mono (by decide)) (by rfl) tk (a_cons (s_var (i := 8) rfl (.inl rfl)) a_nil) (len_dws (len_cons len_nil) rfl))) (s_call C_law_copied (hr.mono (by decide)) (by rfl) tk (a_cons (s_var (i := 8) rfl (.inl rfl)) a_nil) (len_dws (len_cons len_nil) rfl)) (s_var (i := 8) rfl (.inl rfl)))) (b_cons (s_set (i := 2) sc_law.nd rfl (.inl rfl) (s_call C_law_good (hr.mono (by decide)) (by rfl) tk (a_cons (s_var (i := 8) rfl (.inl rfl)) a_nil) (len_dws (len_cons len_nil) rfl))) (b_cons (s_set (i := 9) sc_law.nd rfl (.inl rfl) (s_call C_is_picture (hr.mono (by decide)) (by rfl) tk (a_cons (s_var (i := 8) rfl (.inl rfl)) a_nil) (len_dws (len_cons len_nil) rfl))) (b_cons (s_if (PW.pt (w_or (s_tnot (s_truth (s_bi call_isi says_isi (by rfl) T.n_isinstance bt_isinstance (c_cons (s_var (i := 9) rfl (.inl rfl)) (c_cons (s_ty (by rfl) T.n_bool bt_bool) c_nil))))) (w_or (s_testCmp (op_neA hu) says_ne (s_var (i := 9) rfl (.inl rfl)) (s_var (i := 2) rfl (.inl rfl)) (nomark _)) (w_or1 (s_testCmp (op_neA hu) says_ne (s_tup (a_cons (s_glob (by rfl) T.k_MOST_SIDE) (a_cons (s_glob (by rfl) T.k_MOST_CELL) a_nil))) (s_tup (a_cons s_int (a_cons s_int a_nil))) (nomark _)))))) (b_one (s_ret s_bl)) b_nil) (b_cons (s_if (s_truth (s_var (i := 2) rfl (.inl rfl))) (b_cons (s_set (i := 6) sc_law.nd rfl (.inl rfl) (s_call C_size_of (hr.mono (by decide)) (by rfl) tk (a_cons (s_var (i := 8) rfl (.inl rfl)) a_nil) (len_dws (len_cons len_nil) rfl))) (b_one (s_if (PW.pt (w_or (s_testCmp op_isNotA says_isNot (s_call C_need_picture (hr.mono (by decide)) (by rfl) tk (a_cons (s_var (i := 8) rfl (.inl rfl)) a_nil) (len_dws (len_cons len_nil) rfl)) s_non (nomark _)) (w_or (s_tnot (s_truth (s_bi call_isi says_isi (by rfl) T.n_isinstance bt_isinstance (c_cons (s_var (i := 6) rfl (.inl rfl)) (c_cons (s_ty (by rfl) T.n_tuple bt_tuple) c_nil))))) (w_or1 (s_testCmp (op_neA hu) says_ne (s_var (i := 6) rfl (.inl rfl)) (s_tup (a_cons (s_bi call_len says_len (by rfl) T.n_len bt_len (c_cons (s_ix (s_var (i := 8) rfl (.inl rfl)) s_int) c_nil)) (a_cons (s_bi call_len says_len (by rfl) T.n_len bt_len (c_cons (s_var (i := 8) rfl (.inl rfl)) c_nil)) a_nil))) (nomark _)))))) (b_one (s_ret s_bl)) b_nil))) (b_one (s_if (s_tnot (s_truth (s_call C_law_refused (hr.mono (by decide)) (by rfl) tk (a_cons (s_var (i := 8) rfl (.inl rfl)) a_nil) (len_dws (len_cons len_nil) rfl)))) (b_one (s_ret s_bl)) b_nil))) (b_cons (s_set (i := 7) sc_law.nd rfl (.inl rfl) (s_lst (a_cons (s_call C_law_odd (hr.mono (by decide)) (by rfl) tk (a_cons (s_call C_law_cell_at (hr.mono (by decide)) (by rfl) tk (a_cons (s_var (i := 0) rfl (.inl rfl)) (a_cons s_int a_nil)) (len_dws (len_cons (len_cons len_nil)) rfl)) a_nil) (len_dws (len_cons len_nil) rfl)) (a_cons (s_bin op_mod says_mod (s_call C_law_cell_at (hr.mono (by decide)) (by rfl) tk (a_cons (s_var (i := 0) rfl (.inl rfl)) (a_cons s_int a_nil)) (len_dws (len_cons (len_cons len_nil)) rfl)) s_int) (a_cons (s_bin op_sub says_sub (s_bin op_mod says_mod (s_call C_law_cell_at (hr.mono (by decide)) (by rfl) tk (a_cons (s_var (i := 0) rfl (.inl rfl)) (a_cons s_int a_nil)) (len_dws (len_cons (len_cons len_nil)) rfl)) s_int) s_int) a_nil))))) (b_cons (s_for (passes_of rfl) rfl (i_any (s_var (i := 7) rfl (.inl rfl))) (g_name (i := 4) sc_law.nd rfl (.inl rfl)) (b_cons (s_set (i := 9) sc_law.nd rfl (.inl rfl) (s_call C_is_cell (hr.mono (by decide)) (by rfl) tk (a_cons (s_var (i := 4) rfl (.inl rfl)) a_nil) (len_dws (len_cons len_nil) rfl))) (b_one (s_if (PW.pt (w_or (s_tnot (s_truth (s_bi call_isi says_isi (by rfl) T.n_isinstance bt_isinstance (c_cons (s_var (i := 9) rfl (.inl rfl)) (c_cons (s_ty (by rfl) T.n_bool bt_bool) c_nil))))) (w_or1 (s_testCmp (op_neA hu) says_ne (s_var (i := 9) rfl (.inl rfl)) (s_call C_law_is_cell (hr.mono (by decide)) (by rfl) tk (a_cons (s_var (i := 4) rfl (.inl rfl)) a_nil) (len_dws (len_cons len_nil) rfl)) (nomark _))))) (b_one (s_ret s_bl)) b_nil)))) (b_cons (s_set (i := 5) sc_law.nd rfl (.inl rfl) (s_lst (a_cons (s_lst (a_cons s_int (a_cons s_int a_nil))) (a_cons (s_lst (a_cons s_int (a_cons s_int (a_cons s_int a_nil)))) (a_cons (s_lst (a_cons s_int a_nil)) a_nil))))) (b_cons (s_if (PW.pt (w_or (s_testCmp op_isNotA says_isNot (s_call C_is_picture (hr.mono (by decide)) (by rfl) tk (a_cons (s_var (i := 5) rfl (.inl rfl)) a_nil) (len_dws (len_cons len_nil) rfl)) s_bl (nomark _)) (w_or1 (s_tnot (s_truth (s_call C_law_refused (hr.mono (by decide)) (by rfl) tk (a_cons (s_var (i := 5) rfl (.inl rfl)) a_nil) (len_dws (len_cons len_nil) rfl))))))) (b_one (s_ret s_bl)) b_nil) (b_one (s_ret (v_and (s_cmp (op_eqA hu) says_eq (s_var (i := 8) rfl (.inl rfl)) (s_var (i := 3) rfl (.inl rfl)) (nomark _)) (v_one (s_call C_law_blanks_right (hr.mono (by decide)) (by rfl) tk (a_cons (s_call C_law_cell_at (hr.mono (by decide)) (by rfl) tk (a_cons (s_var (i := 0) rfl (.inl rfl)) (a_cons s_int a_nil)) (len_dws (len_cons (len_cons len_nil)) rfl)) (a_cons (s_call C_law_cell_at (hr.mono (by decide)) (by rfl) tk (a_cons (s_var (i := 0) rfl (.inl rfl)) (a_cons s_int a_nil)) (len_dws (len_cons (len_cons len_nil)) rfl)) a_nil)) (len_dws (len_cons (len_cons len_nil)) rfl))))))))))))))))))
end
end Lk01
set_option Elab.async false
set_option linter.all false
set_option maxRecDepth 100000
set_option maxHeartbeats 4000000
namespace Lk01
open PySem PySem.Spec PyProof.Rows L2 Sy
/-! script, mixed numbers -/
def cellZ (ns : List Int) (k : Int) : Int := ns.getD k.toNat 0
abbrev scr (ns : List Int) : W := .frl (ns.map W.int)
@[simp] theorem fLen_frl (ws : List W) (G : GH) : fLen [.val (.frl ws)] G = .ok (.val (.int ws.length)) G := (rfl)
theorem fIx_frl {ws : List W} {k : Nat} {w : W} {G : GH} (h : ws[k]? = some w) : fIx (.val (.frl ws)) (.val (.int k)) G = .ok (.val w) G := by
  unfold fIx
  simp [atI_nat h]
theorem cell_eq (ns : List Int) (k : Int) (hk : 0 ≤ k) (G : GH) : m_law_cell_at [scr ns, .int k] G = .ok (.int (cellZ ns k)) G := by
  refine mDef_ok [some (scr ns), some (.int k)] ?_
  obtain ⟨k, rfl⟩ := Int.eq_ofNat_of_zero_le hk
  unfold b_law_cell_at cellZ
  by_cases h : k < ns.length
  · have e : (ns.map W.int)[k]? = some (.int ns[k]) := by simp [h]
    simp [h, fIx_frl e]
  · simp [h]
def mixN (c k : Int) : Int := c % 1000000007 + 7919 * k + 13
def mixZ (c k : Int) : Int := mixN c k * mixN c k % 1000000007 * mixN c k % 998244353 / 11
theorem bits_small {z : Int} {m : Nat} (h0 : 0 ≤ z) (h : z < 2 ^ m) : Builtin.Int.intBits z ≤ m := by
  rw [PySem.intBits_le_iff]
  obtain ⟨n, rfl⟩ := Int.eq_ofNat_of_zero_le h0
  have : ((n : Nat) : Int) < ((2 ^ m : Nat) : Int) := by simpa using h
  simpa using Int.ofNat_lt.mp this
theorem mixed_eq (c k : Int) (h0 : 0 ≤ k) (hk : k ≤ 1000000) (G : GH) : m_law_mixed [.int c, .int k] G = .ok (.int (mixZ c k)) G := by
  refine mDef_ok [some (.int c), some (.int k), none] ?_
  unfold b_law_mixed mixZ
  have hm0 := Int.emod_nonneg c (show (1000000007 : Int) ≠ 0 by decide)
  have hm1 := Int.emod_lt_of_pos c (show (0 : Int) < 1000000007 by decide)
  have m1 : mulOk 7919 k = true := mulOk_of (a := 13) (b := 20) (by decide) (bits_small h0 (by omega)) (by decide)
  have hb : Builtin.Int.intBits (mixN c k) ≤ 40 := bits_small (by unfold mixN; omega) (by unfold mixN; omega)
  have hy : c % 1000000007 + 7919 * k + 13 = mixN c k := rfl
  generalize mixN c k = y at *
  have m2 : mulOk y y = true := mulOk_of hb hb (by decide)
  have m3 : mulOk (y * y % 1000000007) y = true := mulOk_of (a := 30) (b := 40) (bits_small (Int.emod_nonneg _ (by decide)) (Int.lt_trans (Int.emod_lt_of_pos _ (by decide)) (by decide))) hb (by decide)
  simp [fMul_int, fFdiv_int, fMod_int, m1, hy, m2, m3, show Nat.log2 11 < 9000 by decide]
theorem mixZ_nonneg (c k : Int) : 0 ≤ mixZ c k := by
  unfold mixZ
  generalize mixN c k * mixN c k % 1000000007 * mixN c k = y
  have := Int.emod_nonneg y (show (998244353 : Int) ≠ 0 by decide)
  omega
theorem mixZ_lt (c k : Int) : mixZ c k < 90749487 := by
  unfold mixZ
  generalize mixN c k * mixN c k % 1000000007 * mixN c k = y
  have := Int.emod_lt_of_pos y (show (0 : Int) < 998244353 by decide)
  omega
/-! among, cells -/
def amongW (lo hi : Int) : W → Bool
  | .int i => decide (lo ≤ i) && decide (i ≤ hi)
  | _ => false
abbrev okW (G : GH) (w : W) : Prop := (tyOf G (.val w)).isSome = true
theorem among_eq {G : GH} {w : W} (h : okW G w) (lo hi : Int) : m_is_among [w, .int lo, .int hi] G = .ok (.bl (amongW lo hi w)) G := by
  refine mDef_ok [some w, some (.int lo), some (.int hi)] ?_
  unfold b_is_among
  cases w with
  | int i =>
    simp [amongW]
    by_cases h1 : lo ≤ i
    · simp [h1]
    · simp [h1]
  | bl b => simp [amongW]
  | non => simp [amongW]
  | str x => simp [amongW]
  | tup ws => simp [amongW]
  | loc n =>
    have e : ∃ a, tyOf G (.val (.loc n)) = some a ∧ subTy a "int" = some false := by
      unfold okW tyOf at h
      unfold tyOf
      dsimp only at h ⊢
      cases e : G[n]? with
      | none => rw [e] at h; cases h
      | some o =>
        rw [e] at h
        cases o with
        | lst ws => exact ⟨_, rfl, by decide⟩
        | dK ws => exact ⟨_, rfl, by decide⟩
        | dT ws => exact ⟨_, rfl, by decide⟩
        | ins c fs => cases h
    obtain ⟨a, e1, e2⟩ := e
    have := isi_of e1 e2
    simp [amongW, this]
  | frl ws =>
    have := isi_of (G := G) (t := .val (.frl ws)) (a := "list") (b := "int") (r := false) rfl (by decide)
    simp [amongW, this]
  | ty n => cases h
  | cls n => cases h
  | exn n a => cases h
abbrev cellW : W → Bool := amongW 0 15
theorem is_cell_eq {G : GH} {w : W} (h : okW G w) : m_is_cell [w] G = .ok (.bl (cellW w)) G := by
  refine mDef_ok [some w] ?_
  unfold b_is_cell
  simp [among_eq h]
theorem okW_int (G : GH) (i : Int) : okW G (.int i) := rfl
theorem are_cells_eq {G : GH} {n : Nat} {ws : List W} (h : G[n]? = some (.lst ws)) (hl : ws.length ≤ 16777216) (hw : ∀ w ∈ ws, okW G w) : m_are_cells [.loc n] G = .ok (.bl (ws.all cellW)) G := by
  refine mDef_ok [some (.loc n), none] ?_
  unfold b_are_cells
  have hc : compF [(n, ws)] (gN 1) mYes (mCall m_is_cell [] (mCons (mVar 1) mNil)) [some (.loc n), none] ws G = .ok (ws.map fun w => W.bl (cellW w)) G :=
    compF_map (fun w => .bl (cellW w)) (still_of h) fun w hw' => ⟨_, rfl, rfl, by simp [is_cell_eq (hw w hw')]⟩
  have hit := iterA_loc (G := G) (n := n) (ws := ws) (by simp [h])
  have hall := fAll_tmp (ws.map cellW) G
  rw [List.map_map] at hall
  have e : (ws.map fun w => W.bl (cellW w)) = ws.map (W.bl ∘ cellW) := rfl
  rw [e] at hc
  generalize ws.map (W.bl ∘ cellW) = L at hc hall
  simp [isi_lst_list h, mComp_at, miA_at, hit, wipeS, hl, hc, hall]
theorem cells_no_list {G : GH} {w : W} {a : String} (ht : tyOf G (.val w) = some a) (ha : subTy a "list" = some false) : m_are_cells [w] G = .ok (.bl false) G := by
  refine mDef_ok [some w, none] ?_
  unfold b_are_cells
  simp [isi_of ht ha]
/-! good pictures -/
structure Good (pic : List (List Int)) (wide : Nat) : Prop where
  h0 : 0 < pic.length
  h1 : pic.length ≤ 24
  w0 : 0 < wide
  w1 : wide ≤ 24
  row : ∀ r ∈ pic, r.length = wide
  cell : ∀ r ∈ pic, ∀ c ∈ r, 0 ≤ c ∧ c ≤ 15
theorem Good.first {pic : List (List Int)} {wide : Nat} (g : Good pic wide) : ∃ r, pic[0]? = some r ∧ r.length = wide := by
  have h := g.h0
  refine ⟨pic[0], List.getElem?_eq_getElem h, g.row _ (List.getElem_mem h)⟩
theorem fIx_loc {G : GH} {n : Nat} {ws : List W} {k : Nat} {w : W} (h : G[n]? = some (.lst ws)) (hk : ws[k]? = some w) : fIx (.val (.loc n)) (.val (.int k)) G = .ok (.val w) G := by
  unfold fIx
  simp [h, atI_nat hk]
theorem fIx_loc0 {G : GH} {n : Nat} {ws : List W} {w : W} (h : G[n]? = some (.lst ws)) (hk : ws[0]? = some w) : fIx (.val (.loc n)) (.val (.int 0)) G = .ok (.val w) G := fIx_loc h hk
theorem iterA_at {G : GH} {n : Nat} {ws : List W} (h : G[n]? = some (.lst ws)) : iterA (.val (.loc n)) G = .ok (ws, [(n, ws)]) G := iterA_loc (by simp [h])
theorem all_true {α : Type} {p : α → Bool} {l : List α} (h : ∀ x ∈ l, p x = true) : l.all p = true := List.all_eq_true.mpr h
theorem is_picture_good {G : GH} {n : Nat} {ms : List Nat} {pic : List (List Int)} {wide : Nat} (h : RowsAt G n ms (pic.map iW)) (g : Good pic wide) : m_is_picture [.loc n] G = .ok (.bl true) G := by
  refine mDef_ok [some (.loc n), none] ?_
  unfold b_is_picture
  have hl : ms.length = pic.length := by rw [h.len, List.length_map]
  have h0 := g.h0
  have h1 := g.h1
  obtain ⟨r0, e0, l0⟩ := g.first
  obtain ⟨m0, f0, g0⟩ := paired_nth h.row (i := 0) (y := iW r0) (by rw [List.getElem?_map, e0]; rfl)
  have ht0 : (ms.map W.loc)[0]? = some (.loc m0) := by rw [List.getElem?_map, f0]; rfl
  have hix := fIx_loc0 h.top ht0
  have hlen0 : fLen [.val (.loc m0)] G = .ok (.val (.int wide)) G := by rw [fLen_loc g0, List.length_map, l0]
  have hlen : fLen [.val (.loc n)] G = .ok (.val (.int pic.length)) G := by rw [fLen_loc h.top, List.length_map, hl]
  have hit := iterA_at h.top
  have hc1 : compF [(n, ms.map W.loc)] (gN 1) mYes (mCall m_are_cells [] (mCons (mVar 1) mNil)) [some (.loc n), none] (ms.map W.loc) G = .ok ((ms.map W.loc).map fun _ => W.bl true) G := by
    refine compF_map (fun _ => .bl true) (still_of h.top) fun w hw => ⟨_, rfl, rfl, ?_⟩
    obtain ⟨m, hm, rfl⟩ := List.mem_map.mp hw
    obtain ⟨r, hr, e⟩ := paired_mem h.row m hm
    obtain ⟨is, his, rfl⟩ := List.mem_map.mp hr
    have hlr := g.row is his
    have hw1 := g.w1
    have := are_cells_eq e (by rw [List.length_map]; omega) (fun w hw => by obtain ⟨i, _, rfl⟩ := List.mem_map.mp hw; rfl)
    have ha : (iW is).all cellW = true := all_true fun w hw => by
      obtain ⟨i, hi, rfl⟩ := List.mem_map.mp hw
      have := g.cell is his i hi
      simp [cellW, amongW, this.1, this.2]
    rw [ha] at this
    simp [this]
  have hc2 : compF [(n, ms.map W.loc)] (gN 1) mYes (mBin fEq (mBi fLen (mConsT (mVar 1) mNilT)) (mBi fLen (mConsT (mBin fIx (mVar 0) (mC (.int 0))) mNilT))) [some (.loc n), none] (ms.map W.loc) G = .ok ((ms.map W.loc).map fun _ => W.bl true) G := by
    refine compF_map (fun _ => .bl true) (still_of h.top) fun w hw => ⟨_, rfl, rfl, ?_⟩
    obtain ⟨m, hm, rfl⟩ := List.mem_map.mp hw
    obtain ⟨r, hr, e⟩ := paired_mem h.row m hm
    obtain ⟨is, his, rfl⟩ := List.mem_map.mp hr
    have hlm : fLen [.val (.loc m)] G = .ok (.val (.int wide)) G := by rw [fLen_loc e, List.length_map, g.row is his]
    simp [hlm, hix, hlen0]
  have hall := fAll_yes (ms.map W.loc) G
  have hl3 : (ms.map W.loc).length ≤ 16777216 := by rw [List.length_map]; omega
  have hlist := isi_lst_list h.top
  have hw0 := g.w0
  have hw1 := g.w1
  generalize (ms.map W.loc).map (fun _ => W.bl true) = L at hc1 hc2 hall
  generalize ms.map W.loc = ws at *
  have i1 : (1 : Int) ≤ pic.length := by omega
  have i2 : (pic.length : Int) ≤ 24 := by omega
  have i3 : (1 : Int) ≤ wide := by omega
  have i4 : (wide : Int) ≤ 24 := by omega
  rw [seq_no (G1 := G) (by simp [hlist, hlen, i1, i2, mComp_at, miA_at, hit, wipeS, hl3, hc1, hall])]
  simp [hix, hlen0, i3, i4, mComp_at, miA_at, hit, wipeS, hl3, hc2, hall]
theorem need_picture_good {G : GH} {n : Nat} {ms : List Nat} {pic : List (List Int)} {wide : Nat} (h : RowsAt G n ms (pic.map iW)) (g : Good pic wide) : m_need_picture [.loc n] G = .ok .non G := by
  refine mDef_nx [some (.loc n)] ?_ (τ1 := [some (.loc n)])
  unfold b_need_picture
  simp [is_picture_good h g]
theorem no_picture {G : GH} {w : W} {a : String} (ht : tyOf G (.val w) = some a) (ha : subTy a "list" = some false) : m_is_picture [w] G = .ok (.bl false) G := by
  refine mDef_ok [some w, none] ?_
  unfold b_is_picture
  rw [seq_yes (G1 := G) (by simp [isi_of ht ha])]
  simp
end Lk01
set_option Elab.async false
set_option linter.all false
set_option maxRecDepth 100000
set_option maxHeartbeats 4000000
namespace Lk01
open PySem PySem.Spec PyProof.Rows L2 Sy
/-! drawn pictures -/
theorem nat_of {z : Int} (h : 0 ≤ z) : ∃ n : Nat, z = n := Int.eq_ofNat_of_zero_le h
theorem in62_small {z : Int} (h0 : 0 ≤ z) (h : z ≤ 1000000) : in62 z = true := in62_of (by omega) (by omega)
theorem iterR_nat (n : Nat) (h : n ≤ 1000000) (G : GH) : iterR [.int n] G = .ok (rangeW 0 n, []) G := by
  rw [iterR_ok (in62_small (by omega) (by omega))]; rfl
theorem mem_range {n : Nat} {w : W} (h : w ∈ rangeW 0 n) : ∃ i : Nat, i < n ∧ w = .int i := by
  obtain ⟨i, hi⟩ := List.getElem?_of_mem h
  obtain ⟨h1, h2⟩ := rangeW_get hi
  exact ⟨i, h1, by rw [h2, Int.zero_add]⟩
theorem rangeW_map {n : Nat} {β : Type} (f : W → β) (g : Nat → β) (h : ∀ i : Nat, f (.int i) = g i) : (rangeW 0 n).map f = (List.range n).map g := by
  unfold rangeW
  rw [List.map_map]
  apply List.map_congr_left
  intro i _
  show f (.int (0 + (i : Int))) = g i
  rw [Int.zero_add, h]
theorem log2_small {z : Int} (h0 : 0 < z) (h : z ≤ 1000000000) : z.natAbs.log2 < 9000 := by
  obtain ⟨n, rfl⟩ := Int.eq_ofNat_of_zero_le (Int.le_of_lt h0)
  have hn : n < 2 ^ 31 := by omega
  have h1 : n ≠ 0 := by omega
  have := (Nat.log2_lt h1).mpr hn
  show n.log2 < 9000
  omega
def rowZ (base cells hues : Int) (wide y : Nat) : List Int := (List.range wide).map fun (x : Nat) => (base + mixZ cells (24 * (y : Int) + (x : Int)) % hues) % 16
def picZ (base cells hues : Int) (wide high : Nat) : List (List Int) := (List.range high).map (rowZ base cells hues wide)
theorem picZ_good {base cells hues : Int} {wide high : Nat} (h0 : 0 < high) (h1 : high ≤ 24) (w0 : 0 < wide) (w1 : wide ≤ 24) : Good (picZ base cells hues wide high) wide := by
  refine ⟨by simp [picZ, h0], by simp [picZ, h1], w0, w1, fun r hr => ?_, fun r hr c hc => ?_⟩
  · obtain ⟨y, _, rfl⟩ := List.mem_map.mp hr
    simp [rowZ]
  · obtain ⟨y, _, rfl⟩ := List.mem_map.mp hr
    obtain ⟨x, _, rfl⟩ := List.mem_map.mp hc
    have := Int.emod_nonneg (base + mixZ cells (24 * (y : Int) + (x : Int)) % hues) (show (16 : Int) ≠ 0 by decide)
    have := Int.emod_lt_of_pos (base + mixZ cells (24 * (y : Int) + (x : Int)) % hues) (show (0 : Int) < 16 by decide)
    omega
theorem side_pos {z m : Int} (h : 0 < m) (h2 : m ≤ 24) : ∃ n : Nat, 1 + z % m = n ∧ 0 < n ∧ n ≤ 24 := by
  have h3 := Int.emod_nonneg z (show m ≠ 0 by omega)
  have h4 := Int.emod_lt_of_pos z h
  obtain ⟨n, hn⟩ := nat_of (show 0 ≤ 1 + z % m by omega)
  exact ⟨n, hn, by omega, by omega⟩
theorem hues_at (z : Int) : ∃ h : Int, 0 < h ∧ h ≤ 16 ∧ ∀ G, fIx (.tmp [.int 16, .int 2, .int 3, .int 4]) (.val (.int (z % 4))) G = .ok (.val (.int h)) G := by
  have h3 := Int.emod_nonneg z (show (4 : Int) ≠ 0 by decide)
  have h4 := Int.emod_lt_of_pos z (show (0 : Int) < 4 by decide)
  obtain ⟨n, hn⟩ := nat_of h3
  rw [hn] at h4 ⊢
  have : n = 0 ∨ n = 1 ∨ n = 2 ∨ n = 3 := by omega
  rcases this with rfl | rfl | rfl | rfl
  · exact ⟨16, by decide, by decide, fun G => rfl⟩
  · exact ⟨2, by decide, by decide, fun G => rfl⟩
  · exact ⟨3, by decide, by decide, fun G => rfl⟩
  · exact ⟨4, by decide, by decide, fun G => rfl⟩
theorem rows_comp (base cells hues : Int) (wide high : Nat) (hh : 0 < hues) (w1 : wide ≤ 24) (h1 : high ≤ 24) (a0 a1 a2 a5 a7 : Option W) (G : GH) :
    (sRet (mComp (miR (mCons (mVar 5) mNil)) (gN 9) mYes (mComp (miR (mCons (mVar 8) mNil)) (gN 10) mYes (mBin fMod (mBin fAdd (mVar 3) (mBin fMod (mCall m_law_mixed [] (mCons (mVar 4) (mCons (mBin fAdd (mBin fMul (mC (.int 24)) (mVar 9)) (mVar 10)) mNil))) (mVar 6))) (mC (.int 16))) [10]) [9]))
      [a0, a1, a2, some (.int base), some (.int cells), some (.int high), some (.int hues), a7, some (.int wide), none, none] G =
    .rt (.loc (G.length + (picZ base cells hues wide high).length)) (laidR G ((picZ base cells hues wide high).map iW)) := by
  have inner : ∀ (y : Nat), y < high → ∀ xs : GH, mComp (miR (mCons (mVar 8) mNil)) (gN 10) mYes (mBin fMod (mBin fAdd (mVar 3) (mBin fMod (mCall m_law_mixed [] (mCons (mVar 4) (mCons (mBin fAdd (mBin fMul (mC (.int 24)) (mVar 9)) (mVar 10)) mNil))) (mVar 6))) (mC (.int 16))) [10]
      [a0, a1, a2, some (.int base), some (.int cells), some (.int high), some (.int hues), a7, some (.int wide), some (.int y), none] (G ++ xs) = .ok (.tmp (iW (rowZ base cells hues wide y))) (G ++ xs) := by
    intro y hy xs
    have hc : compF [] (gN 10) mYes (mBin fMod (mBin fAdd (mVar 3) (mBin fMod (mCall m_law_mixed [] (mCons (mVar 4) (mCons (mBin fAdd (mBin fMul (mC (.int 24)) (mVar 9)) (mVar 10)) mNil))) (mVar 6))) (mC (.int 16)))
        [a0, a1, a2, some (.int base), some (.int cells), some (.int high), some (.int hues), a7, some (.int wide), some (.int y), none] (rangeW 0 wide) (G ++ xs) = .ok (iW (rowZ base cells hues wide y)) (G ++ xs) := by
      unfold iW rowZ
      rw [List.map_map, ← rangeW_map (fun w => match w with | .int x => W.int ((base + mixZ cells (24 * (y : Int) + x) % hues) % 16) | _ => .non) (W.int ∘ fun (x : Nat) => (base + mixZ cells (24 * (y : Int) + (x : Int)) % hues) % 16) (fun i => rfl)]
      refine compF_map _ still_nil fun w hw => ⟨_, rfl, rfl, ?_⟩
      obtain ⟨x, hx, rfl⟩ := mem_range hw
      have m1 : mulOk 24 (y : Int) = true := mulOk_of (a := 5) (b := 20) (by decide) (bits_small (by omega) (by omega)) (by decide)
      have hm := mixed_eq cells (24 * y + x) (by omega) (by omega)
      simp [fMul_int, m1, hm, fMod_int, hh]
    simp [mComp_at, miR_at, iterR_nat wide (by omega), wipeS, hc, show wide ≤ 16777216 by omega]
  have hout : compF [] (gN 9) mYes (mComp (miR (mCons (mVar 8) mNil)) (gN 10) mYes (mBin fMod (mBin fAdd (mVar 3) (mBin fMod (mCall m_law_mixed [] (mCons (mVar 4) (mCons (mBin fAdd (mBin fMul (mC (.int 24)) (mVar 9)) (mVar 10)) mNil))) (mVar 6))) (mC (.int 16))) [10])
      [a0, a1, a2, some (.int base), some (.int cells), some (.int high), some (.int hues), a7, some (.int wide), none, none] (rangeW 0 high) G = .ok (locs G.length high) (G ++ ((picZ base cells hues wide high).map iW).map GO.lst) := by
    have := compF_alloc (src := []) (g := gN 9) (c := mYes) (G := G) (ws := rangeW 0 high) (τ := [a0, a1, a2, some (.int base), some (.int cells), some (.int high), some (.int hues), a7, some (.int wide), none, none])
      (e := mComp (miR (mCons (mVar 8) mNil)) (gN 10) mYes (mBin fMod (mBin fAdd (mVar 3) (mBin fMod (mCall m_law_mixed [] (mCons (mVar 4) (mCons (mBin fAdd (mBin fMul (mC (.int 24)) (mVar 9)) (mVar 10)) mNil))) (mVar 6))) (mC (.int 16))) [10])
      (fun w => match w with | .int y => iW (rowZ base cells hues wide y.toNat) | _ => []) (fun _ => still_nil) (fun w hw xs => by
        obtain ⟨y, hy, rfl⟩ := mem_range hw
        exact ⟨_, rfl, rfl, inner y hy xs⟩)
    rw [this, rangeW_len]
    congr 2
    rw [rangeW_map _ (fun y => GO.lst (iW (rowZ base cells hues wide y))) (fun i => rfl)]
    unfold picZ
    rw [List.map_map, List.map_map]; rfl
  have hlen : (picZ base cells hues wide high).length = high := by simp [picZ]
  unfold laidR
  generalize picZ base cells hues wide high = P at *
  subst hlen
  simp [mComp_at, miR_at, iterR_nat P.length (by omega), wipeS, hout, show P.length ≤ 16777216 by omega]
theorem picture_eq (ns : List Int) (at_ most : Int) (ha : 0 ≤ at_) (hm : 0 < most) (hm2 : most ≤ 24) : ∃ pic wide, Good pic wide ∧ ∀ G, m_law_picture [scr ns, .int at_, .int most] G = .ok (.loc (G.length + pic.length)) (laidR G (pic.map iW)) := by
  have c0 := cell_eq ns at_ ha
  have c1 := cell_eq ns (at_ + 1) (by omega)
  have c2 := cell_eq ns (at_ + 2) (by omega)
  generalize cellZ ns at_ = side at *
  generalize cellZ ns (at_ + 1) = z1 at *
  generalize cellZ ns (at_ + 2) = cells at *
  have hl := log2_small hm (by omega)
  obtain ⟨hues, hh0, hh1, hhe⟩ := hues_at z1
  obtain ⟨wide, high, ⟨w0, w1, h0, h1⟩, hstep⟩ : ∃ wide high : Nat, (0 < wide ∧ wide ≤ 24 ∧ 0 < high ∧ high ≤ 24) ∧ ∀ (b : MS) (a3 a4 a6 a9 a10 : Option W) (G : GH),
      sSeq (sIf (mB (mBin fEq (mBin fMod (mBin fFdiv (mBin fFdiv (mVar 7) (mVar 2)) (mVar 2)) (mC (.int 8))) (mC (.int 1)))) (sSet 8 (mBin fAdd (mC (.int 1)) (mBin fMod (mBin fFdiv (mBin fFdiv (mBin fFdiv (mVar 7) (mVar 2)) (mVar 2)) (mC (.int 8))) (mC (.int 24))))) (sIf (mB (mBin fEq (mBin fMod (mBin fFdiv (mBin fFdiv (mVar 7) (mVar 2)) (mVar 2)) (mC (.int 8))) (mC (.int 2)))) (sSet 5 (mBin fAdd (mC (.int 1)) (mBin fMod (mBin fFdiv (mBin fFdiv (mBin fFdiv (mVar 7) (mVar 2)) (mVar 2)) (mC (.int 8))) (mC (.int 24))))) sNext)) b
        [some (scr ns), some (.int at_), some (.int most), a3, a4, some (.int (1 + side / most % most)), a6, some (.int side), some (.int (1 + side % most)), a9, a10] G =
      b [some (scr ns), some (.int at_), some (.int most), a3, a4, some (.int high), a6, some (.int side), some (.int wide), a9, a10] G := by
    obtain ⟨w, ew, w0, w1⟩ := side_pos (z := side) hm hm2
    obtain ⟨h, eh, h0, h1⟩ := side_pos (z := side / most) hm hm2
    obtain ⟨f, ef, f0, f1⟩ := side_pos (z := side / most / most / 8) (m := 24) (by decide) (by decide)
    have l8 : Nat.log2 8 < 9000 := by decide
    by_cases k1 : side / most / most % 8 = 1
    · refine ⟨f, h, ⟨f0, f1, h0, h1⟩, fun b a3 a4 a6 a9 a10 G => ?_⟩
      rw [ew, eh]
      simp [fFdiv_int, fMod_int, hm, hl, l8, k1, ef]
    · by_cases k2 : side / most / most % 8 = 2
      · refine ⟨w, f, ⟨w0, w1, f0, f1⟩, fun b a3 a4 a6 a9 a10 G => ?_⟩
        rw [ew, eh]
        simp [fFdiv_int, fMod_int, hm, hl, l8, k2, ef]
      · refine ⟨w, h, ⟨w0, w1, h0, h1⟩, fun b a3 a4 a6 a9 a10 G => ?_⟩
        rw [ew, eh]
        simp [fFdiv_int, fMod_int, hm, hl, l8, k1, k2]
  refine ⟨picZ (z1 / 4 % 16) cells hues wide high, wide, picZ_good h0 h1 w0 w1, fun G => mDef_ok [some (scr ns), some (.int at_), some (.int most), none, none, none, none, none, none, none, none] ?_⟩
  unfold b_law_picture
  rw [seq_nx (τ1 := [some (scr ns), some (.int at_), some (.int most), none, none, none, none, some (.int side), none, none, none]) (G1 := G) (by simp [c0])]
  rw [seq_nx (τ1 := [some (scr ns), some (.int at_), some (.int most), none, none, none, none, some (.int side), some (.int (1 + side % most)), none, none]) (G1 := G) (by simp [fMod_int, hm])]
  rw [seq_nx (τ1 := [some (scr ns), some (.int at_), some (.int most), none, none, some (.int (1 + side / most % most)), none, some (.int side), some (.int (1 + side % most)), none, none]) (G1 := G) (by simp [fMod_int, fFdiv_int, hm, hl])]
  rw [hstep]
  rw [seq_nx (τ1 := [some (scr ns), some (.int at_), some (.int most), none, none, some (.int high), some (.int hues), some (.int side), some (.int wide), none, none]) (G1 := G) (by simp [c1, fMod_int, hhe])]
  rw [seq_nx (τ1 := [some (scr ns), some (.int at_), some (.int most), some (.int (z1 / 4 % 16)), none, some (.int high), some (.int hues), some (.int side), some (.int wide), none, none]) (G1 := G) (by simp [c1, fMod_int, fFdiv_int, show Nat.log2 4 < 9000 by decide])]
  rw [seq_nx (τ1 := [some (scr ns), some (.int at_), some (.int most), some (.int (z1 / 4 % 16)), some (.int cells), some (.int high), some (.int hues), some (.int side), some (.int wide), none, none]) (G1 := G) (by simp [c2])]
  exact rows_comp _ _ _ _ _ hh0 w1 h1 _ _ _ none _ G
end Lk01
set_option Elab.async false
set_option linter.all false
set_option maxRecDepth 100000
set_option maxHeartbeats 4000000
namespace Lk01
open PySem PySem.Spec PyProof.Rows L2 Sy
/-! copies, likeness, all cells -/
theorem copied_eq {G : GH} {n : Nat} {ms : List Nat} {rows : List (List W)} (h : RowsAt G n ms rows) (hl : rows.length ≤ 16777216) : m_law_copied [.loc n] G = .ok (.loc (G.length + rows.length)) (laidR G rows) := by
  refine mDef_ok [some (.loc n), none] ?_
  unfold b_law_copied
  have hc : compF [(n, ms.map W.loc)] (gN 1) mYes (mBi fList (mConsT (mVar 1) mNilT)) [some (.loc n), none] (ms.map W.loc) G = .ok (locs G.length rows.length) (G ++ rows.map fun r => .lst r) := by
    refine compF_allocP (fun r => r) (fun xs => still_of (get_mono h.top xs)) (paired_map (paired_imp h.row fun m r e xs => ⟨_, rfl, rfl, ?_⟩))
    have := fList_loc (get_mono e xs)
    simp [this]
  have hit := iterA_at h.top
  have hlm : (ms.map W.loc).length ≤ 16777216 := by rw [List.length_map, h.len]; exact hl
  unfold laidR
  generalize ms.map W.loc = ws at *
  simp [mComp_at, miA_at, hit, wipeS, hlm, hc]
theorem zip_at {ms ks : List Nat} {i : Nat} {w : W} (h : (zipW (ms.map W.loc) (ks.map W.loc))[i]? = some w) : ∃ m k, ms[i]? = some m ∧ ks[i]? = some k ∧ w = .tup [.loc m, .loc k] := by
  unfold zipW at h
  rw [List.getElem?_map] at h
  cases e : ((ms.map W.loc).zip (ks.map W.loc))[i]? with
  | none => rw [e] at h; cases h
  | some p =>
    rw [e] at h
    obtain ⟨a, b⟩ := p
    rw [List.getElem?_zip_eq_some, List.getElem?_map, List.getElem?_map] at e
    obtain ⟨e1, e2⟩ := e
    cases e3 : ms[i]? with
    | none => rw [e3] at e1; cases e1
    | some m =>
      cases e4 : ks[i]? with
      | none => rw [e4] at e2; cases e2
      | some k =>
        rw [e3] at e1; rw [e4] at e2
        cases e1; cases e2; cases h
        exact ⟨m, k, rfl, rfl, rfl⟩
theorem paired_right {α β : Type} {P : α → β → Prop} {xs : List α} {ys : List β} (h : Paired P xs ys) {i : Nat} {x : α} (e : xs[i]? = some x) : ∃ y, ys[i]? = some y ∧ P x y := by
  have hl : i < ys.length := by rw [← h.length]; exact (List.getElem?_eq_some_iff.mp e).1
  exact ⟨_, List.getElem?_eq_getElem hl, paired_get h i _ _ e (List.getElem?_eq_getElem hl)⟩
theorem ints_whole (is : List Int) (s0 s1 s2 s3 s4 s5 : Option W) {G : GH} {k : Nat} (h : G[k]? = some (.lst (iW is))) (hl : is.length ≤ 1000) :
    mComp (miA (mVar 4)) (gN 5) (mOr (mNot (mTru (mBi fIsi (mConsT (mVar 5) (mConsT (mC (.ty "int")) mNilT))))) (mTru (mBi fIsi (mConsT (mVar 5) (mConsT (mC (.ty "bool")) mNilT))))) (mVar 5) [5] [s0, s1, s2, s3, some (.loc k), s5] G = .ok (.tmp []) G := by
  have hc : compF [(k, iW is)] (gN 5) (mOr (mNot (mTru (mBi fIsi (mConsT (mVar 5) (mConsT (mC (.ty "int")) mNilT))))) (mTru (mBi fIsi (mConsT (mVar 5) (mConsT (mC (.ty "bool")) mNilT))))) (mVar 5) [s0, s1, s2, s3, some (.loc k), none] (iW is) G = .ok (((iW is).filter fun _ => false).map id) G := by
    refine compF_filter (fun _ => false) id (still_of h) fun w hw => ⟨_, rfl, ?_, fun z => Bool.noConfusion z⟩
    obtain ⟨i, _, rfl⟩ := List.mem_map.mp hw
    simp
  rw [show (iW is).filter (fun _ => false) = [] from by simp, List.map_nil] at hc
  have hit := iterA_at h
  have hl2 : (iW is).length ≤ 16777216 := by rw [List.length_map]; omega
  generalize iW is = ws at *
  simp [mComp_at, miA_at, hit, wipeS, hl2, hc]
theorem ne_nil (G : GH) : fNe (.tmp []) (.tmp []) G = .ok (.val (.bl false)) G := by
  exact (fNe_data (toDT_tmpI G []) (toDT_tmpI G [])).trans rfl
theorem set_get {G : GH} {m j : Nat} {o : GO} (h : m < G.length) : (G.set m o)[j]? = if j = m then some o else G[j]? := by
  rw [List.getElem?_set]
  by_cases e : m = j
  · subst e; simp [h]
  · have e2 : ¬ j = m := fun z => e z.symm
    simp [e, e2]
theorem take_succ_mem {α : Type} [DecidableEq α] {l : List α} {i : Nat} {a : α} (h : l[i]? = some a) (j : α) : j ∈ l.take (i + 1) ↔ j ∈ l.take i ∨ j = a := by
  rw [List.take_add_one, h]
  simp
theorem nodup_take {l : List Nat} {i a : Nat} (nd : l.Nodup) (h : l[i]? = some a) : a ∉ l.take i := fun hm => by
  obtain ⟨j, hj⟩ := List.getElem?_of_mem hm
  rw [List.getElem?_take] at hj
  split at hj
  · rename_i hji
    have h1 := List.getElem?_eq_some_iff.mp hj
    have h2 := List.getElem?_eq_some_iff.mp h
    exact absurd (h1.2.trans h2.2.symm) (List.pairwise_iff_getElem.mp nd j i h1.1 h2.1 hji)
  · cases hj
theorem nodup_drop {l : List Nat} {i a : Nat} (nd : l.Nodup) (h : l[i]? = some a) (j : Nat) : j ∈ l.drop (i + 1) ↔ j ∈ l.drop i ∧ j ≠ a := by
  have hl := (List.getElem?_eq_some_iff.mp h).1
  have e := (List.getElem?_eq_some_iff.mp h).2
  rw [List.drop_eq_getElem_cons hl, e]
  have nd2 : (l.drop i).Nodup := List.Nodup.sublist (List.drop_sublist i l) nd
  rw [List.drop_eq_getElem_cons hl, e, List.nodup_cons] at nd2
  constructor
  · intro hm
    exact ⟨List.mem_cons_of_mem _ hm, fun z => nd2.1 (z ▸ hm)⟩
  · rintro ⟨hm, hne⟩
    rcases List.mem_cons.mp hm with z | z
    · exact absurd z hne
    · exact z
theorem is_like_eq {G : GH} {n m : Nat} {ms ks : List Nat} {pic : List (List Int)} (hF : RowsAt G n ms (pic.map iW)) (hD : RowsAt G m ks (pic.map iW)) (nd : ms.Nodup) (h1 : n ∉ ms) (h2 : m ∉ ms) (h3 : ∀ k ∈ ks, k ∉ ms)
    (hp : pic.length ≤ 1000) (hr : ∀ r ∈ pic, r.length ≤ 1000) : m_law_is_like [.loc n, .loc m] G = .ok (.bl true) G := by
  refine mDef_ok [some (.loc n), some (.loc m), none, none, none, none] ?_
  unfold b_law_is_like
  have hlm : ms.length = pic.length := by rw [hF.len, List.length_map]
  have hlk : ks.length = pic.length := by rw [hD.len, List.length_map]
  have hlist := isi_lst_list hF.top
  have hl1 : fLen [.val (.loc n)] G = .ok (.val (.int pic.length)) G := by rw [fLen_loc hF.top, List.length_map, hlm]
  have hl2 : fLen [.val (.loc m)] G = .ok (.val (.int pic.length)) G := by rw [fLen_loc hD.top, List.length_map, hlk]
  rw [seq_no (G1 := G) (by simp [hlist, hl1, hl2])]
  -- the first walk
  have hz : miB iterZ (mConsT (mVar 0) (mConsT (mVar 1) mNilT)) [some (.loc n), some (.loc m), none, none, none, none] G = .ok (zipW (ms.map W.loc) (ks.map W.loc), [(n, ms.map W.loc), (m, ks.map W.loc)]) G := by
    have := iterZ_loc hF.top hD.top
    generalize zipW (ms.map W.loc) (ks.map W.loc) = z at *
    simp [miB_at, this]
  obtain ⟨s3, s4, s5, hw1⟩ : ∃ s3 s4 s5, sFor (miB iterZ (mConsT (mVar 0) (mConsT (mVar 1) mNilT))) (gT (gC (gN 4) (gC (gN 3) gE)))
      (sSeq (sIf (mOr (mNot (mTru (mBi fIsi (mConsT (mVar 4) (mConsT (mC (.ty "list")) mNilT))))) (mB (mBin fNe (mVar 4) (mVar 3)))) (sRet (mC (.bl false))) sNext) (sIf (mB (mBin fNe (mComp (miA (mVar 4)) (gN 5) (mOr (mNot (mTru (mBi fIsi (mConsT (mVar 5) (mConsT (mC (.ty "int")) mNilT))))) (mTru (mBi fIsi (mConsT (mVar 5) (mConsT (mC (.ty "bool")) mNilT))))) (mVar 5) [5]) (mLst mNil))) (sRet (mC (.bl false))) sNext))
      [some (.loc n), some (.loc m), none, none, none, none] G = .nx [some (.loc n), some (.loc m), none, s3, s4, s5] G := by
    rw [sFor_at, hz, R.toS_ok]
    refine forL_run (I := fun _ τ G' => G' = G ∧ ∃ s3 s4 s5, τ = [some (.loc n), some (.loc m), none, s3, s4, s5]) (E := fun r => ∃ s3 s4 s5, r = .nx [some (.loc n), some (.loc m), none, s3, s4, s5] G) (τ := [some (.loc n), some (.loc m), none, none, none, none]) (G := G) ⟨rfl, _, _, _, rfl⟩ ?_ ?_
    · rintro i w τ G' hw ⟨rfl, s3, s4, s5, rfl⟩
      obtain ⟨a, b, ea, eb, rfl⟩ := zip_at hw
      refine ⟨still_two hF.top hD.top, _, rfl, ?_⟩
      obtain ⟨r, er, ga⟩ := paired_right hF.row ea
      obtain ⟨r', er', gb⟩ := paired_right hD.row eb
      rw [er] at er'
      cases er'
      obtain ⟨is, his, rfl⟩ := List.mem_map.mp (List.mem_of_getElem? er)
      have e1 := isi_lst_list ga
      have e2 := ne_ints ga gb
      have e3 := ints_whole is (some (.loc n)) (some (.loc m)) none (some (.loc b)) none s5 ga (hr is his)
      rw [decide_eq_true rfl] at e2
      show Turn _ _ (sSeq _ _ [some (.loc n), some (.loc m), none, some (.loc b), some (.loc a), s5] G')
      rw [seq_no (G1 := G') (by simp [e1, e2])]
      rw [if_no (G1 := G') (by
        rw [mB_at, mBin_at, e3]
        simp [ne_nil])]
      exact ⟨rfl, _, _, _, rfl⟩
    · rintro τ G' ⟨rfl, s3, s4, s5, rfl⟩
      exact ⟨still_two hF.top hD.top, _, _, _, rfl⟩
  rw [seq_nx hw1]
  -- a cell more
  have hitF := iterA_at hF.top
  obtain ⟨s4', G2, hB, hw2⟩ : ∃ s4' G2, Bumped (.int 0) G ms G2 ∧ sFor (miA (mVar 0)) (gN 4) (sDrop (mMtF isLst fApp (mVar 4) (mCons (mC (.int 0)) mNil))) [some (.loc n), some (.loc m), none, s3, s4, s5] G = .nx [some (.loc n), some (.loc m), none, s3, s4', s5] G2 := by
    have hmi : miA (mVar 0) [some (.loc n), some (.loc m), none, s3, s4, s5] G = .ok (ms.map W.loc, [(n, ms.map W.loc)]) G := by
      generalize ms.map W.loc = ws at *
      simp [miA_at, hitF]
    rw [sFor_at, hmi, R.toS_ok]
    refine forL_run (I := fun i τ G' => Bumped (.int 0) G (ms.take i) G' ∧ ∃ s4, τ = [some (.loc n), some (.loc m), none, s3, s4, s5]) (E := fun r => ∃ s4 G2, Bumped (.int 0) G ms G2 ∧ r = .nx [some (.loc n), some (.loc m), none, s3, s4, s5] G2) (τ := [some (.loc n), some (.loc m), none, s3, s4, s5]) (G := G) ⟨fun j => by simp, _, rfl⟩ ?_ ?_
    · rintro i w τ G' hw ⟨hB, s4, rfl⟩
      rw [List.getElem?_map] at hw
      cases ea : ms[i]? with
      | none => rw [ea] at hw; cases hw
      | some a =>
        rw [ea] at hw
        cases hw
        obtain ⟨r, er, ga⟩ := paired_right hF.row ea
        obtain ⟨is, his, rfl⟩ := List.mem_map.mp (List.mem_of_getElem? er)
        have hn : G'[n]? = some (.lst (ms.map W.loc)) := by
          rw [hB n, if_neg fun z => h1 (List.mem_of_mem_take z)]
          exact hF.top
        have ga' : G'[a]? = some (.lst (iW is)) := by
          rw [hB a, if_neg (nodup_take nd ea)]
          exact ga
        have hla := (List.getElem?_eq_some_iff.mp ga').1
        have e1 := isLst_ok ga'
        have e2 := fApp_ok (w := .int 0) ga' (by rw [List.length_map]; have := hr is his; omega)
        refine ⟨still_of hn, _, rfl, ?_⟩
        show Turn _ _ (sDrop _ [some (.loc n), some (.loc m), none, s3, some (.loc a), s5] G')
        generalize iW is = ws at *
        rw [show (sDrop (mMtF isLst fApp (mVar 4) (mCons (mC (.int 0)) mNil)) [some (.loc n), some (.loc m), none, s3, some (.loc a), s5] G') = .nx [some (.loc n), some (.loc m), none, s3, some (.loc a), s5] (G'.set a (.lst (ws ++ [.int 0]))) by simp [e1, e2]]
        refine ⟨fun j => ?_, _, rfl⟩
        rw [set_get hla, hB j]
        by_cases hja : j = a
        · subst hja
          rw [if_pos rfl, if_pos ((take_succ_mem ea j).mpr (.inr rfl)), ga]; rfl
        · rw [if_neg hja]
          by_cases hjt : j ∈ ms.take i
          · rw [if_pos hjt, if_pos ((take_succ_mem ea j).mpr (.inl hjt))]
          · rw [if_neg hjt, if_neg fun z => ((take_succ_mem ea j).mp z).elim hjt hja]
    · rintro τ G' ⟨hB, s4, rfl⟩
      rw [List.length_map, List.take_length] at hB
      have hn : G'[n]? = some (.lst (ms.map W.loc)) := by
        rw [hB n, if_neg h1]
        exact hF.top
      exact ⟨still_of hn, _, _, hB, rfl⟩
  rw [seq_nx hw2]
  have hn2 : G2[n]? = some (.lst (ms.map W.loc)) := by rw [hB n, if_neg h1]; exact hF.top
  have hm2 : G2[m]? = some (.lst (ks.map W.loc)) := by rw [hB m, if_neg h2]; exact hD.top
  have hitF2 := iterA_at hn2
  have hitD2 := iterA_at hm2
  have hbound : (ms.map W.loc).length ≤ 16777216 := by rw [List.length_map]; omega
  have hbound2 : (ks.map W.loc).length ≤ 16777216 := by rw [List.length_map]; omega
  have mem_ix : ∀ {i a : Nat}, ms[i]? = some a → a ∈ ms := fun h => List.mem_of_getElem? h
  have c1 : compF [(n, ms.map W.loc)] (gN 4) mYes (mBi fLen (mConsT (mVar 4) mNilT)) [some (.loc n), some (.loc m), none, s3, none, s5] (ms.map W.loc) G2 = .ok (iW (pic.map fun r => (r.length : Int) + 1)) G2 := by
    have := compF_paired (src := [(n, ms.map W.loc)]) (g := gN 4) (c := mYes) (e := mBi fLen (mConsT (mVar 4) mNilT)) (τ := [some (.loc n), some (.loc m), none, s3, none, s5]) (G := G2) (ws := ms.map W.loc) (ys := pic) (fun r => W.int ((r.length : Int) + 1)) (still_of hn2) (paired_map (paired_of hlm fun i a r ea er => ⟨_, rfl, rfl, by
      obtain ⟨u, eu, ga⟩ := paired_right hF.row ea
      rw [List.getElem?_map, er] at eu
      cases eu
      have ga2 : G2[a]? = some (.lst (iW r ++ [.int 0])) := by rw [hB a, if_pos (mem_ix ea), ga]; rfl
      have := fLen_loc ga2
      rw [List.length_append, List.length_map] at this
      simp [this]⟩))
    rw [this]
    simp
  have c2 : compF [(m, ks.map W.loc)] (gN 4) mYes (mBin fAdd (mBi fLen (mConsT (mVar 4) mNilT)) (mC (.int 1))) [some (.loc n), some (.loc m), none, s3, none, s5] (ks.map W.loc) G2 = .ok (iW (pic.map fun r => (r.length : Int) + 1)) G2 := by
    have := compF_paired (src := [(m, ks.map W.loc)]) (g := gN 4) (c := mYes) (e := mBin fAdd (mBi fLen (mConsT (mVar 4) mNilT)) (mC (.int 1))) (τ := [some (.loc n), some (.loc m), none, s3, none, s5]) (G := G2) (ws := ks.map W.loc) (ys := pic) (fun r => W.int ((r.length : Int) + 1)) (still_of hm2) (paired_map (paired_of hlk fun i a r ea er => ⟨_, rfl, rfl, by
      obtain ⟨u, eu, ga⟩ := paired_right hD.row ea
      rw [List.getElem?_map, er] at eu
      cases eu
      have ga2 : G2[a]? = some (.lst (iW r)) := by rw [hB a, if_neg (h3 a (List.mem_of_getElem? ea))]; exact ga
      have := fLen_loc ga2
      rw [List.length_map] at this
      simp [this]⟩))
    rw [this]
    simp
  have c3 : fEq (.tmp (iW (pic.map fun r => (r.length : Int) + 1))) (.tmp (iW (pic.map fun r => (r.length : Int) + 1))) G2 = .ok (.val (.bl true)) G2 := by
    rw [fEq_data (toDT_tmpI _ _) (toDT_tmpI _ _), eqv_ints]
    simp
  rw [seq_nx (τ1 := [some (.loc n), some (.loc m), some (.bl true), s3, s4', s5]) (G1 := G2) (by
    generalize iW (pic.map fun r => (r.length : Int) + 1) = L at *
    generalize ms.map W.loc = ws at *
    generalize ks.map W.loc = us at *
    simp [mComp_at, miA_at, hitF2, hitD2, wipeS, hbound, hbound2, c1, c2, c3])]
  -- and gone again
  obtain ⟨s4'', hw3⟩ : ∃ s4'', sFor (miA (mVar 0)) (gN 4) (sDrop (mMt isLst fPop (mVar 4) mNilT)) [some (.loc n), some (.loc m), some (.bl true), s3, s4', s5] G2 = .nx [some (.loc n), some (.loc m), some (.bl true), s3, s4'', s5] G := by
    have hmi : miA (mVar 0) [some (.loc n), some (.loc m), some (.bl true), s3, s4', s5] G2 = .ok (ms.map W.loc, [(n, ms.map W.loc)]) G2 := by
      generalize ms.map W.loc = ws at *
      simp [miA_at, hitF2]
    rw [sFor_at, hmi, R.toS_ok]
    refine forL_run (I := fun i τ G' => Bumped (.int 0) G (ms.drop i) G' ∧ ∃ s4, τ = [some (.loc n), some (.loc m), some (.bl true), s3, s4, s5]) (E := fun r => ∃ s4, r = .nx [some (.loc n), some (.loc m), some (.bl true), s3, s4, s5] G) (τ := [some (.loc n), some (.loc m), some (.bl true), s3, s4', s5]) (G := G2) ⟨by rw [List.drop_zero]; exact hB, _, rfl⟩ ?_ ?_
    · rintro i w τ G' hw ⟨hB, s4, rfl⟩
      rw [List.getElem?_map] at hw
      cases ea : ms[i]? with
      | none => rw [ea] at hw; cases hw
      | some a =>
        rw [ea] at hw
        cases hw
        obtain ⟨r, er, ga⟩ := paired_right hF.row ea
        have hn : G'[n]? = some (.lst (ms.map W.loc)) := by
          rw [hB n, if_neg fun z => h1 (List.mem_of_mem_drop z)]
          exact hF.top
        have hmd : a ∈ ms.drop i := by
          have hl := (List.getElem?_eq_some_iff.mp ea).1
          rw [List.drop_eq_getElem_cons hl, (List.getElem?_eq_some_iff.mp ea).2]
          exact List.mem_cons_self
        have ga' : G'[a]? = some (.lst (r ++ [.int 0])) := by rw [hB a, if_pos hmd, ga]; rfl
        have hla := (List.getElem?_eq_some_iff.mp ga').1
        have e1 := isLst_ok ga'
        have e2 := fPop_ok ga'
        refine ⟨still_of hn, _, rfl, ?_⟩
        show Turn _ _ (sDrop _ [some (.loc n), some (.loc m), some (.bl true), s3, some (.loc a), s5] G')
        rw [show (sDrop (mMt isLst fPop (mVar 4) mNilT) [some (.loc n), some (.loc m), some (.bl true), s3, some (.loc a), s5] G') = .nx [some (.loc n), some (.loc m), some (.bl true), s3, some (.loc a), s5] (G'.set a (.lst r)) by simp [e1, e2]]
        refine ⟨fun j => ?_, _, rfl⟩
        rw [set_get hla, hB j]
        by_cases hja : j = a
        · subst hja
          rw [if_pos rfl, if_neg fun z => ((nodup_drop nd ea j).mp z).2 rfl, ga]
        · rw [if_neg hja]
          by_cases hjt : j ∈ ms.drop i
          · rw [if_pos hjt, if_pos ((nodup_drop nd ea j).mpr ⟨hjt, hja⟩)]
          · rw [if_neg hjt, if_neg fun z => hjt ((nodup_drop nd ea j).mp z).1]
    · rintro τ G' ⟨hB, s4, rfl⟩
      rw [List.length_map, List.drop_length] at hB
      have hG : G' = G := by
        apply List.ext_getElem?
        intro j
        rw [hB j, if_neg List.not_mem_nil]
      subst hG
      exact ⟨still_of hF.top, _, rfl⟩
  rw [seq_nx hw3]
  simp
end Lk01
set_option Elab.async false
set_option linter.all false
set_option maxRecDepth 100000
set_option maxHeartbeats 4000000
namespace Lk01
open PySem PySem.Spec PyProof.Rows L2 Sy
theorem fIx_tup {G : GH} {ws : List W} {k : Nat} {w : W} (hk : ws[k]? = some w) : fIx (.val (.tup ws)) (.val (.int k)) G = .ok (.val w) G := by
  unfold fIx
  simp [atI_nat hk]
@[simp] theorem fIx_tup0 {G : GH} {ws : List W} {w : W} : fIx (.val (.tup (w :: ws))) (.val (.int 0)) G = .ok (.val w) G := fIx_tup (k := 0) rfl
@[simp] theorem fIx_tup1 {G : GH} {ws : List W} {u w : W} : fIx (.val (.tup (u :: w :: ws))) (.val (.int 1)) G = .ok (.val w) G := fIx_tup (k := 1) rfl
@[simp] theorem fLen_tup (ws : List W) (G : GH) : fLen [.val (.tup ws)] G = .ok (.val (.int ws.length)) G := (rfl)
theorem appOk {n : Nat} {us : List W} {w : W} {G : GH} (h : G[n]? = some (.lst us)) (hl : us.length ≤ 1000000) : fApp (.val (.loc n)) [w] G = .ok (.val .non) (G.set n (.lst (us ++ [w]))) := fApp_ok h (by omega)
theorem fTuple_loc {G : GH} {n : Nat} {ws : List W} (h : G[n]? = some (.lst ws)) : fTuple [.val (.loc n)] G = .ok (.val (.tup ws)) G := by
  unfold fTuple
  simp [h]
theorem sPut_ok {mo mi m : M T} {τ : Sl} {G G1 G2 G3 : GH} {w : W} {n k : Nat} {us : List W} (hm : (m τ G).bind force = .ok w G1) (ho : mo τ G1 = .ok (.val (.loc n)) G2) (hi : mi τ G2 = .ok (.val (.int k)) G3) (hu : G3[n]? = some (.lst us)) (hk : k < us.length) :
    sPut mo mi m τ G = .nx τ (G3.set n (.lst (us.set k w))) := by
  unfold sPut
  have e : ixN us.length (k : Int) = some k := by
    unfold ixN
    rw [if_pos (by omega), if_pos (by omega)]; rfl
  have hm' : mF m τ G = .ok w G1 := hm
  rw [hm']
  simp only [R.toS_ok, ho, hi, lstAt_loc, hu, Option.bind_some, wr_lst, Option.map_some, e]
/-! what is a picture, of anything -/
def lstOf (G : GH) : W → Option (List W)
  | .loc n => (match G[n]? with
    | some (.lst ws) => some ws
    | _ => none)
  | _ => none
def noFrl : W → Bool
  | .frl _ => false
  | _ => true
theorem lstOf_loc {G : GH} {n : Nat} {ws : List W} (h : G[n]? = some (.lst ws)) : lstOf G (.loc n) = some ws := by
  unfold lstOf
  dsimp only
  rw [h]
theorem lstOf_some {G : GH} {w : W} {ws : List W} (h : lstOf G w = some ws) : ∃ n, w = .loc n ∧ G[n]? = some (.lst ws) := by
  unfold lstOf at h
  split at h
  · rename_i n
    split at h
    · rename_i us e
      cases h
      exact ⟨n, rfl, e⟩
    · cases h
  · cases h
theorem lstOf_none {G : GH} {w : W} (hok : okW G w) (hf : noFrl w = true) (h : lstOf G w = none) : ∃ a, tyOf G (.val w) = some a ∧ subTy a "list" = some false := by
  cases w with
  | non => exact ⟨_, rfl, by decide⟩
  | bl b => exact ⟨_, rfl, by decide⟩
  | int i => exact ⟨_, rfl, by decide⟩
  | str x => exact ⟨_, rfl, by decide⟩
  | tup ws => exact ⟨_, rfl, by decide⟩
  | frl ws => cases hf
  | ty n => cases hok
  | cls n => cases hok
  | exn c a => cases hok
  | loc n =>
    unfold lstOf at h
    unfold okW tyOf at hok
    unfold tyOf
    dsimp only at *
    cases e : G[n]? with
    | none => rw [e] at hok; cases hok
    | some o =>
      rw [e] at h hok
      cases o with
      | lst ws => cases h
      | dK kvs => exact ⟨_, rfl, by decide⟩
      | dT kvs => exact ⟨_, rfl, by decide⟩
      | ins c fs => cases hok
theorem okW_lt {G : GH} {n : Nat} (h : okW G (.loc n)) : n < G.length := by
  unfold okW tyOf at h
  dsimp only at h
  cases e : G[n]? with
  | none => rw [e] at h; cases h
  | some o => exact (List.getElem?_eq_some_iff.mp e).1
theorem okW_app {G : GH} {w : W} (xs : GH) (h : okW G w) : okW (G ++ xs) w := by
  cases w with
  | loc n =>
    have hl := okW_lt h
    unfold okW tyOf at h ⊢
    dsimp only at h ⊢
    rw [List.getElem?_append_left hl]
    exact h
  | _ => exact h
theorem lstOf_app {G : GH} {w : W} (xs : GH) (h : okW G w) : lstOf (G ++ xs) w = lstOf G w := by
  cases w with
  | loc n =>
    have hl := okW_lt h
    unfold lstOf
    dsimp only
    rw [List.getElem?_append_left hl]
  | _ => rfl
structure okR (G : GH) (r : W) : Prop where
  ok : okW G r
  nf : noFrl r = true
  cs : ∀ cs, lstOf G r = some cs → cs.length ≤ 100000 ∧ ∀ c ∈ cs, okW G c
structure okP (G : GH) (w : W) : Prop where
  ok : okW G w
  nf : noFrl w = true
  rs : ∀ rs, lstOf G w = some rs → rs.length ≤ 100000 ∧ ∀ r ∈ rs, okR G r
theorem okR.app {G : GH} {r : W} (xs : GH) (h : okR G r) : okR (G ++ xs) r :=
  ⟨okW_app xs h.ok, h.nf, fun cs e => by
    rw [lstOf_app xs h.ok] at e
    exact ⟨(h.cs cs e).1, fun c hc => okW_app xs ((h.cs cs e).2 c hc)⟩⟩
theorem okP.app {G : GH} {w : W} (xs : GH) (h : okP G w) : okP (G ++ xs) w :=
  ⟨okW_app xs h.ok, h.nf, fun rs e => by
    rw [lstOf_app xs h.ok] at e
    exact ⟨(h.rs rs e).1, fun r hr => ((h.rs rs e).2 r hr).app xs⟩⟩
def cellsB (G : GH) (r : W) : Bool := match lstOf G r with
  | some cs => cs.all cellW
  | none => false
def lenOf (G : GH) (r : W) : Nat := match lstOf G r with
  | some cs => cs.length
  | none => 0
def isPicB (G : GH) (w : W) : Bool := match lstOf G w with
  | none => false
  | some rs => (decide (1 ≤ rs.length) && decide (rs.length ≤ 24) && rs.all (cellsB G)) && ((decide (1 ≤ lenOf G (rs.getD 0 .non)) && decide (lenOf G (rs.getD 0 .non) ≤ 24)) && rs.all fun r => decide (lenOf G r = lenOf G (rs.getD 0 .non)))
theorem all_congr {α : Type} {p q : α → Bool} {l : List α} (h : ∀ x ∈ l, p x = q x) : l.all p = l.all q := by
  induction l with
  | nil => rfl
  | cons a l ih => rw [List.all_cons, List.all_cons, h a List.mem_cons_self, ih fun x hx => h x (List.mem_cons_of_mem _ hx)]
theorem isPicB_app {G : GH} {w : W} (xs : GH) (h : okP G w) : isPicB (G ++ xs) w = isPicB G w := by
  unfold isPicB
  rw [lstOf_app xs h.ok]
  cases e : lstOf G w with
  | none => rfl
  | some rs =>
    have hr := (h.rs rs e).2
    have e1 : ∀ r ∈ rs, cellsB (G ++ xs) r = cellsB G r := fun r m => by unfold cellsB; rw [lstOf_app xs (hr r m).ok]
    have e2 : ∀ r ∈ rs, lenOf (G ++ xs) r = lenOf G r := fun r m => by unfold lenOf; rw [lstOf_app xs (hr r m).ok]
    have e3 : lenOf (G ++ xs) (rs.getD 0 .non) = lenOf G (rs.getD 0 .non) := by
      cases rs with
      | nil => rfl
      | cons r rs => exact e2 r List.mem_cons_self
    dsimp only
    rw [e3, all_congr e1, all_congr (p := fun r => decide (lenOf (G ++ xs) r = lenOf G (rs.getD 0 .non))) (q := fun r => decide (lenOf G r = lenOf G (rs.getD 0 .non))) fun r m => by rw [e2 r m]]
theorem cells_any {G : GH} {r : W} (h : okR G r) : m_are_cells [r] G = .ok (.bl (cellsB G r)) G := by
  unfold cellsB
  cases e : lstOf G r with
  | none =>
    obtain ⟨a, h1, h2⟩ := lstOf_none h.ok h.nf e
    exact cells_no_list h1 h2
  | some cs =>
    obtain ⟨n, rfl, hn⟩ := lstOf_some e
    exact are_cells_eq hn (by have := (h.cs cs e).1; omega) (h.cs cs e).2
theorem is_picture_any {G : GH} {w : W} (h : okP G w) : m_is_picture [w] G = .ok (.bl (isPicB G w)) G := by
  unfold isPicB
  cases e : lstOf G w with
  | none =>
    obtain ⟨a, h1, h2⟩ := lstOf_none h.ok h.nf e
    exact no_picture h1 h2
  | some rs =>
    obtain ⟨n, rfl, hn⟩ := lstOf_some e
    obtain ⟨hl, hr⟩ := h.rs rs e
    refine mDef_ok [some (.loc n), none] ?_
    unfold b_is_picture
    have hlist := isi_lst_list hn
    have hlen := fLen_loc hn
    have hit := iterA_at hn
    have hl3 : rs.length ≤ 16777216 := by omega
    dsimp only
    by_cases i1 : 1 ≤ rs.length
    · by_cases i2 : rs.length ≤ 24
      · have j1 : (1 : Int) ≤ rs.length := by omega
        have j2 : (rs.length : Int) ≤ 24 := by omega
        have hc1 : compF [(n, rs)] (gN 1) mYes (mCall m_are_cells [] (mCons (mVar 1) mNil)) [some (.loc n), none] rs G = .ok (rs.map fun r => W.bl (cellsB G r)) G :=
          compF_map (fun r => .bl (cellsB G r)) (still_of hn) fun r hm => ⟨_, rfl, rfl, by simp [cells_any (hr r hm)]⟩
        have hall := fAll_tmp (rs.map (cellsB G)) G
        rw [List.map_map] at hall
        rw [show (rs.map fun r => W.bl (cellsB G r)) = rs.map (W.bl ∘ cellsB G) from rfl] at hc1
        rw [show ((rs.map (cellsB G)).all id) = rs.all (cellsB G) by rw [List.all_map]; rfl] at hall
        cases hA : rs.all (cellsB G) with
        | false =>
          rw [hA] at hall
          generalize rs.map (W.bl ∘ cellsB G) = L at hc1 hall
          rw [seq_yes (G1 := G) (by simp [hlist, hlen, j1, j2, mComp_at, miA_at, hit, wipeS, hl3, hc1, hall])]
          simp
        | true =>
          rw [hA] at hall
          generalize rs.map (W.bl ∘ cellsB G) = L at hc1 hall
          rw [seq_no (G1 := G) (by simp [hlist, hlen, j1, j2, mComp_at, miA_at, hit, wipeS, hl3, hc1, hall])]
          have hlens : ∀ r ∈ rs, fLen [.val r] G = .ok (.val (.int (lenOf G r))) G := fun r hm => by
            have hb := List.all_eq_true.mp hA r hm
            unfold cellsB at hb
            unfold lenOf
            cases e' : lstOf G r with
            | none => rw [e'] at hb; cases hb
            | some cs =>
              obtain ⟨k, rfl, hk⟩ := lstOf_some e'
              exact fLen_loc hk
          have h0 : rs[0]? = some (rs.getD 0 .non) := by
            cases rs with
            | nil => cases i1
            | cons r rs => rfl
          have hm0 : rs.getD 0 .non ∈ rs := List.mem_of_getElem? h0
          have hix := fIx_loc0 hn h0
          have hL0 := hlens _ hm0
          generalize hr0 : rs.getD 0 .non = r0 at *
          have hc2 : compF [(n, rs)] (gN 1) mYes (mBin fEq (mBi fLen (mConsT (mVar 1) mNilT)) (mBi fLen (mConsT (mBin fIx (mVar 0) (mC (.int 0))) mNilT))) [some (.loc n), none] rs G = .ok (rs.map fun r => W.bl (decide (lenOf G r = lenOf G r0))) G := by
            refine compF_map (fun r => .bl (decide (lenOf G r = lenOf G r0))) (still_of hn) fun r hm => ⟨_, rfl, rfl, ?_⟩
            have q1 := hlens r hm
            generalize hla : lenOf G r = la at *
            generalize hlb : lenOf G r0 = lb at *
            have : ((la : Int) = (lb : Int)) = (la = lb) := propext Int.natCast_inj
            simp [q1, hix, hL0, this]
          have hall2 := fAll_tmp (rs.map fun r => decide (lenOf G r = lenOf G r0)) G
          rw [List.map_map] at hall2
          rw [show (rs.map fun r => W.bl (decide (lenOf G r = lenOf G r0))) = rs.map (W.bl ∘ fun r => decide (lenOf G r = lenOf G r0)) from rfl] at hc2
          rw [show ((rs.map fun r => decide (lenOf G r = lenOf G r0)).all id) = rs.all (fun r => decide (lenOf G r = lenOf G r0)) by rw [List.all_map]; rfl] at hall2
          generalize rs.map (W.bl ∘ fun r => decide (lenOf G r = lenOf G r0)) = L2 at hc2 hall2
          generalize (rs.all fun r => decide (lenOf G r = lenOf G r0)) = bb at *
          generalize lenOf G r0 = l0 at *
          by_cases k1 : 1 ≤ l0
          · by_cases k2 : l0 ≤ 24
            · have j3 : (1 : Int) ≤ l0 := by omega
              have j4 : (l0 : Int) ≤ 24 := by omega
              simp [hix, hL0, j3, j4, mComp_at, miA_at, hit, wipeS, hl3, hc2, hall2, i1, i2, k1, k2]
            · have j3 : (1 : Int) ≤ l0 := by omega
              have j4 : ¬ (l0 : Int) ≤ 24 := by omega
              simp [hix, hL0, j3, j4, k2]
          · have j3 : ¬ (1 : Int) ≤ l0 := by omega
            simp [hix, hL0, j3, k1]
      · have j1 : (1 : Int) ≤ rs.length := by omega
        have j2 : ¬ (rs.length : Int) ≤ 24 := by omega
        rw [seq_yes (G1 := G) (by simp [hlist, hlen, j1, j2])]
        simp [i2]
    · have j1 : ¬ (1 : Int) ≤ rs.length := by omega
      rw [seq_yes (G1 := G) (by simp [hlist, hlen, j1])]
      simp [i1]
/-- it is none, now and later -/
def BadP (G : GH) (w : W) : Prop := ∀ xs, m_is_picture [w] (G ++ xs) = .ok (.bl false) (G ++ xs)
theorem BadP.mono {G : GH} {w : W} (h : BadP G w) (xs : GH) : BadP (G ++ xs) w := fun ys => by
  rw [List.append_assoc]
  exact h _
theorem badP_of {G : GH} {w : W} (h : okP G w) (hb : isPicB G w = false) : BadP G w := fun xs => by
  have := is_picture_any (h.app xs)
  rw [isPicB_app xs h, hb] at this
  exact this
theorem need_picture_bad {G : GH} {w : W} (h : m_is_picture [w] G = .ok (.bl false) G) : m_need_picture [w] G = .ex 1 [] G := by
  refine mDef_ex [some w] ?_ (τ1 := [some w])
  unfold b_need_picture
  rw [if_yes (G1 := G) (by simp [h])]
  rfl
/-! a picture of which one thing is none -/
theorem okW_list {G : GH} {n : Nat} {ws : List W} (h : G[n]? = some (.lst ws)) : okW G (.loc n) := by
  unfold okW
  rw [tyOf_lst h]
  rfl
theorem okR_ints {G : GH} {m : Nat} {is : List Int} (h : G[m]? = some (.lst (iW is))) (hl : is.length ≤ 1000) : okR G (.loc m) :=
  ⟨okW_list h, rfl, fun cs e => by
    rw [lstOf_loc h] at e
    cases e
    exact ⟨by rw [List.length_map]; omega, fun c hc => by obtain ⟨i, _, rfl⟩ := List.mem_map.mp hc; rfl⟩⟩
theorem okR_flat {G : GH} {r : W} (h1 : okW G r) (h2 : noFrl r = true) (h3 : lstOf G r = none) : okR G r := ⟨h1, h2, fun cs e => by rw [h3] at e; cases e⟩
theorem okP_flat {G : GH} {r : W} (h1 : okW G r) (h2 : noFrl r = true) (h3 : lstOf G r = none) : okP G r := ⟨h1, h2, fun cs e => by rw [h3] at e; cases e⟩
theorem isPicB_flat {G : GH} {r : W} (h3 : lstOf G r = none) : isPicB G r = false := by unfold isPicB; rw [h3]
theorem badP_flat {G : GH} {r : W} (h1 : okW G r) (h2 : noFrl r = true) (h3 : lstOf G r = none) : BadP G r := badP_of (okP_flat h1 h2 h3) (isPicB_flat h3)
theorem row_get {G : GH} {n : Nat} {ms : List Nat} {pic : List (List Int)} (h : RowsAt G n ms (pic.map iW)) {i : Nat} {r : List Int} (e : pic[i]? = some r) : ∃ m, ms[i]? = some m ∧ G[m]? = some (.lst (iW r)) :=
  paired_nth h.row (by rw [List.getElem?_map, e]; rfl)
theorem row_of {G : GH} {n : Nat} {ms : List Nat} {pic : List (List Int)} (h : RowsAt G n ms (pic.map iW)) {i m : Nat} (e : ms[i]? = some m) : ∃ r, pic[i]? = some r ∧ G[m]? = some (.lst (iW r)) := by
  have hl : ms.length = pic.length := by rw [h.len, List.length_map]
  have hi : i < pic.length := by rw [← hl]; exact (List.getElem?_eq_some_iff.mp e).1
  obtain ⟨m', e1, e2⟩ := row_get h (List.getElem?_eq_getElem hi)
  rw [e] at e1
  cases e1
  exact ⟨_, List.getElem?_eq_getElem hi, e2⟩
/-- one row is another thing -/
theorem bad_splice {G : GH} {n k y wide : Nat} {ms : List Nat} {pic : List (List Int)} {s : W} (h : RowsAt G n ms (pic.map iW)) (g : Good pic wide) (hy : y < pic.length) (hs : okR G s) (hb : cellsB G s = false ∨ (lenOf G s ≠ wide ∧ 2 ≤ pic.length))
    (hk : G[k]? = some (.lst ((ms.map W.loc).set y s))) : BadP G (.loc k) := by
  have hml : ms.length = pic.length := by rw [h.len, List.length_map]
  have hh := g.h1
  have hrow : ∀ m ∈ ms, okR G (.loc m) ∧ lenOf G (.loc m) = wide := fun m hm => by
    obtain ⟨i, hi⟩ := List.mem_iff_getElem?.mp hm
    obtain ⟨r, e1, e2⟩ := row_of h hi
    have hr := List.mem_of_getElem? e1
    have hw := g.row r hr
    have w1 := g.w1
    exact ⟨okR_ints e2 (by omega), by unfold lenOf; rw [lstOf_loc e2]; show (iW r).length = wide; rw [List.length_map, hw]⟩
  have hin : s ∈ (ms.map W.loc).set y s := List.mem_of_getElem? (i := y) (List.getElem?_set_self (by rw [List.length_map]; omega))
  refine badP_of ⟨okW_list hk, rfl, fun rs e => ?_⟩ ?_
  · rw [lstOf_loc hk] at e
    cases e
    refine ⟨by rw [List.length_set, List.length_map]; omega, fun r hr => ?_⟩
    rcases List.mem_or_eq_of_mem_set hr with z | z
    · obtain ⟨m, hm, rfl⟩ := List.mem_map.mp z
      exact (hrow m hm).1
    · rw [z]
      exact hs
  · unfold isPicB
    rw [lstOf_loc hk]
    dsimp only
    rcases hb with hb | ⟨hb, h2⟩
    · have : ((ms.map W.loc).set y s).all (cellsB G) = false := by
        rw [List.all_eq_false]
        exact ⟨s, hin, by rw [hb]; exact Bool.false_ne_true⟩
      rw [this]
      simp
    · have : (((ms.map W.loc).set y s).all fun r => decide (lenOf G r = lenOf G (((ms.map W.loc).set y s).getD 0 .non))) = false := by
        rw [← Bool.not_eq_true]
        intro hA
        have hA := List.all_eq_true.mp hA
        have q1 := of_decide_eq_true (hA s hin)
        obtain ⟨y2, hy2, hne⟩ : ∃ y2, y2 < pic.length ∧ y ≠ y2 := by
          by_cases h0 : y = 0
          · exact ⟨1, by omega, by omega⟩
          · exact ⟨0, by omega, h0⟩
        have e2 : ((ms.map W.loc).set y s)[y2]? = some (.loc ms[y2]) := by
          rw [List.getElem?_set_ne hne, List.getElem?_map, List.getElem?_eq_getElem (by omega)]
          rfl
        have q2 := of_decide_eq_true (hA _ (List.mem_of_getElem? e2))
        rw [(hrow _ (List.getElem_mem _)).2] at q2
        rw [← q2] at q1
        exact hb q1
      rw [this]
      simp
theorem bad_25 {G : GH} {k : Nat} {rs : List W} (hk : G[k]? = some (.lst rs)) (hl : rs.length = 25) (hr : ∀ r ∈ rs, okR G r) : BadP G (.loc k) := by
  refine badP_of ⟨okW_list hk, rfl, fun us e => ?_⟩ ?_
  · rw [lstOf_loc hk] at e
    cases e
    exact ⟨by omega, hr⟩
  · unfold isPicB
    rw [lstOf_loc hk]
    simp [hl]
theorem bad_wide {G : GH} {k : Nat} {rs : List W} (hk : G[k]? = some (.lst rs)) (h0 : 0 < rs.length) (hl : rs.length ≤ 24) (hr : ∀ r ∈ rs, okR G r ∧ lenOf G r = 25) : BadP G (.loc k) := by
  refine badP_of ⟨okW_list hk, rfl, fun us e => ?_⟩ ?_
  · rw [lstOf_loc hk] at e
    cases e
    exact ⟨by omega, fun r h => (hr r h).1⟩
  · unfold isPicB
    rw [lstOf_loc hk]
    have : lenOf G (rs.getD 0 .non) = 25 := by
      cases rs with
      | nil => cases h0
      | cons r rs => exact (hr r List.mem_cons_self).2
    dsimp only
    rw [this]
    simp
theorem bad_nil {G : GH} {k : Nat} (hk : G[k]? = some (.lst [])) : BadP G (.loc k) := by
  refine badP_of ⟨okW_list hk, rfl, fun us e => ?_⟩ ?_
  · rw [lstOf_loc hk] at e
    cases e
    exact ⟨by simp, fun r hr => absurd hr (by simp)⟩
  · unfold isPicB
    rw [lstOf_loc hk]
    simp
theorem odd_cell {G : GH} {n : Nat} (hn : G[n]? = some (.lst [.int 0])) : ∀ u ∈ [W.int 16, .int (-1), .bl true, .non, .str "0", .loc n, .int (10 ^ 20), .bl false], okW G u ∧ cellW u = false := by
  intro u hu
  simp at hu
  rcases hu with rfl | rfl | rfl | rfl | rfl | rfl | rfl | rfl
  · exact ⟨rfl, rfl⟩
  · exact ⟨rfl, rfl⟩
  · exact ⟨rfl, rfl⟩
  · exact ⟨rfl, rfl⟩
  · exact ⟨rfl, rfl⟩
  · exact ⟨okW_list hn, rfl⟩
  · exact ⟨rfl, by simp [cellW, amongW]⟩
  · exact ⟨rfl, rfl⟩
theorem fPow_20 (G : GH) : fPow (.val (.int 10)) (.val (.int 20)) G = .ok (.val (.int (10 ^ 20))) G := rfl
theorem splice_eq {ws : List W} {y : Nat} {s : W} (hy : y < ws.length) : ws.take y ++ [s] ++ ws.drop (y + 1) = ws.set y s := by
  rw [List.set_eq_take_append_cons_drop, if_pos hy, List.append_assoc]
  rfl
theorem fAdd_tt {G : GH} {us ws : List W} (hl : us.length + ws.length ≤ 16777216) : fAdd (.tmp us) (.tmp ws) G = .ok (.tmp (us ++ ws)) G := by
  unfold fAdd
  simp only [wrl_tmp, if_pos hl]
theorem fAdd_lt {G : GH} {L : Nat} {ws us : List W} (h : G[L]? = some (.lst ws)) (hl : ws.length + us.length ≤ 16777216) : fAdd (.val (.loc L)) (.tmp us) G = .ok (.tmp (ws ++ us)) G := by
  unfold fAdd
  simp [h, hl]
/-- a thing put in the place of one row -/
theorem put_row {G : GH} {n y : Nat} {ms : List W} {s : W} (h : G[n]? = some (.lst ms)) (hy : y < ms.length) (hl : ms.length ≤ 1000) (a0 a2 a3 a4 a6 a7 : Option W) :
    (sRet (mBin fAdd (mBin fAdd (mSl (mVar 1) mNoP (mP (mVar 8))) (mLst (mCons (mVar 5) mNil))) (mSl (mVar 1) (mP (mBin fAdd (mVar 8) (mC (.int 1)))) mNoP))) [a0, some (.loc n), a2, a3, a4, some s, a6, a7, some (.int y)] G = .rt (.loc G.length) (G ++ [.lst (ms.set y s)]) := by
  have s1 := fSl_loc h none (some (y : Int))
  have s2 := fSl_loc h (some ((y + 1 : Nat) : Int)) none
  rw [cut_to] at s1
  rw [cut_from] at s2
  have s2' : fSl (.val (.loc n)) (some ((y : Int) + 1)) none G = .ok (.tmp (ms.drop (y + 1))) G := s2
  have a1 := fAdd_tt (G := G) (us := ms.take y) (ws := [s]) (by rw [List.length_take]; simp; omega)
  have a2' := fAdd_tt (G := G) (us := ms.take y ++ [s]) (ws := ms.drop (y + 1)) (by rw [List.length_append, List.length_take, List.length_drop]; simp; omega)
  have hle : (ms.set y s).length ≤ 16777216 := by rw [List.length_set]; omega
  rw [splice_eq hy] at a2'
  generalize ms.take y ++ [s] = Y at *
  generalize ms.take y = X at *
  generalize ms.drop (y + 1) = V at *
  generalize ms.set y s = Z at *
  simp [s1, s2', a1, a2']
theorem fMin_int (i j : Int) (G : GH) : fMin [.val (.int i), .val (.int j)] G = .ok (.val (.int (if j < i then j else i))) G := rfl
abbrev tbl12 : List W := [.int 0, .int 0, .int 0, .int 0, .int 0, .int 0, .int 2, .int 1, .int 0, .int 0, .int 0, .int 6]
/-- the choice, and the put -/
theorem tail_eq {G : GH} {n q y k j : Nat} {t : Int} {ms es : List W} {s : W} (hq : G[q]? = some (.lst es)) (ht : tbl12[k]? = some (.int t)) (hj : (if t < (es.length : Int) - 1 then t else (es.length : Int) - 1) = j) (hs : es[j]? = some s) (h : G[n]? = some (.lst ms)) (hy : y < ms.length) (hl : ms.length ≤ 1000) (a0 a2 a3 a5 a7 : Option W) :
    (sSeq (sSet 5 (mBin fIx (mVar 4) (mBi fMin (mConsT (mBin fSub (mBi fLen (mConsT (mVar 4) mNilT)) (mC (.int 1))) (mConsT (mBin fIx (mLst (mCons (mC (.int 0)) (mCons (mC (.int 0)) (mCons (mC (.int 0)) (mCons (mC (.int 0)) (mCons (mC (.int 0)) (mCons (mC (.int 0)) (mCons (mC (.int 2)) (mCons (mC (.int 1)) (mCons (mC (.int 0)) (mCons (mC (.int 0)) (mCons (mC (.int 0)) (mCons (mC (.int 6)) mNil))))))))))))) (mVar 6)) mNilT))))) (sRet (mBin fAdd (mBin fAdd (mSl (mVar 1) mNoP (mP (mVar 8))) (mLst (mCons (mVar 5) mNil))) (mSl (mVar 1) (mP (mBin fAdd (mVar 8) (mC (.int 1)))) mNoP))))
      [a0, some (.loc n), a2, a3, some (.loc q), a5, some (.int k), a7, some (.int y)] G = .rt (.loc G.length) (G ++ [.lst (ms.set y s)]) := by
  have e1 := fIx_tmp (G := G) ht
  have e2 := fLen_loc hq
  have e3 := fMin_int ((es.length : Int) - 1) t G
  rw [hj] at e3
  have e4 := fIx_loc (k := j) hq hs
  rw [seq_nx (τ1 := [a0, some (.loc n), a2, a3, some (.loc q), some s, some (.int k), a7, some (.int y)]) (G1 := G) (by
    simp [e1, e2, e3, e4])]
  exact put_row h hy hl a0 a2 a3 (some (.loc q)) (some (.int k)) a7
end Lk01
set_option Elab.async false
set_option linter.all false
set_option maxRecDepth 100000
set_option maxHeartbeats 4000000
namespace Lk01
open PySem PySem.Spec PyProof.Rows L2 Sy
/-! a thing is equal to itself -/
theorem mapO_nd {α : Type} {f : α → Option PyData} (hf : ∀ w d, f w = some d → noDict d = true) : ∀ {ws : List α} {ds : List PyData}, mapO f ws = some ds → noDictA ds = true
  | [], _, h => by cases h; rfl
  | w :: ws, ds, h => by
    rw [mapO_cons] at h
    cases e1 : f w with
    | none => rw [e1] at h; cases h
    | some d =>
      cases e2 : mapO f ws with
      | none => rw [e1, e2] at h; cases h
      | some es =>
        rw [e1, e2] at h
        cases h
        unfold noDictA
        rw [hf w d e1, mapO_nd hf e2]
        rfl
theorem toD_nd {G : GH} : ∀ (n : Nat) (w : W) (d : PyData), toD n G w = some d → noDict d = true
  | 0, _, _, h => by cases h
  | n + 1, w, d, h => by
    have key : ∀ ws ds, mapO (toD n G) ws = some ds → noDictA ds = true := fun ws ds e => mapO_nd (fun w d => toD_nd n w d) e
    cases w with
    | non => cases h; rfl
    | bl b => cases h; rfl
    | int b => cases h; rfl
    | str x =>
      have h' : (if x.cps.all (· < 0x110000) then some (PyData.str x) else none) = some d := h
      split at h'
      · cases h'; rfl
      · cases h'
    | tup ws =>
      have h' : (mapO (toD n G) ws).map PyData.tuple = some d := h
      cases e : mapO (toD n G) ws with
      | none => rw [e] at h'; cases h'
      | some ds => rw [e] at h'; cases h'; exact key ws ds e
    | frl ws =>
      have h' : (mapO (toD n G) ws).map PyData.list = some d := h
      cases e : mapO (toD n G) ws with
      | none => rw [e] at h'; cases h'
      | some ds => rw [e] at h'; cases h'; exact key ws ds e
    | loc k =>
      have h' : ((rdw G (.loc k)).bind fun ws => (mapO (toD n G) ws).map PyData.list) = some d := h
      cases e0 : rdw G (.loc k) with
      | none => rw [e0] at h'; cases h'
      | some ws =>
        rw [e0] at h'
        have h2 : (mapO (toD n G) ws).map PyData.list = some d := h'
        cases e : mapO (toD n G) ws with
        | none => rw [e] at h2; cases h2
        | some ds => rw [e] at h2; cases h2; exact key ws ds e
    | ty _ => cases h
    | cls _ => cases h
    | exn _ _ => cases h
theorem eq_self_data {G : GH} {w : W} {d : PyData} (h : toD 9 G w = some d) : fEq (.val w) (.val w) G = .ok (.val (.bl true)) G :=
  eq_same h h (toD_nd 9 w d h)
theorem eq_self_list {G : GH} {n : Nat} {ws : List W} (h : G[n]? = some (.lst ws)) (hr : ws.all reflW = true) : fEq (.val (.loc n)) (.val (.loc n)) G = .ok (.val (.bl true)) G := by
  cases e : toDT G (.val (.loc n)) with
  | some d => exact eq_self_data e
  | none =>
    have hs : eqSeen (.val (.loc n)) (.val (.loc n)) G = some true := by
      unfold eqSeen
      have : rdl (.val (.loc n)) G = some ws := by simp [h]
      rw [this]
      dsimp only
      rw [if_neg (fun z => z rfl), if_pos ⟨rfl, rfl, hr⟩]
    unfold fEq
    rw [e]
    dsimp only
    rw [hs]
theorem eq_self_dict {G : GH} {n : Nat} (h : G[n]? = some (.dK [])) : fEq (.val (.loc n)) (.val (.loc n)) G = .ok (.val (.bl true)) G := by
  have e : toDT G (.val (.loc n)) = none := by
    show ((rdw G (.loc n)).bind fun ws => (mapO (toD 8 G) ws).map PyData.list) = none
    rw [rdw_loc, h]
    rfl
  have hs : eqSeen (.val (.loc n)) (.val (.loc n)) G = some true := by
    unfold eqSeen
    have : rdl (.val (.loc n)) G = none := by rw [rdl_val, rdw_loc, h]; rfl
    rw [this]
    have hd : isD0 n G = true := by unfold isD0; rw [h]
    show (if n = n ∧ isD0 n G = true then some true else none) = some true
    rw [if_pos ⟨rfl, hd⟩]
  unfold fEq
  rw [e]
  dsimp only
  rw [hs]
/-- a thing that may be looked at, and is equal to itself as long as it stays -/
structure Thing (G : GH) (w : W) : Prop where
  ok : okP G w
  eqs : ∀ G', Keeps G G' → fEq (.val w) (.val w) G' = .ok (.val (.bl true)) G'
theorem thing_list {G : GH} {n : Nat} {ws : List W} (h : G[n]? = some (.lst ws)) (hl : ws.length ≤ 100000) (hr : ∀ r ∈ ws, okR G r ∧ reflW r = true) : Thing G (.loc n) :=
  ⟨⟨okW_list h, rfl, fun rs e => by
    rw [lstOf_loc h] at e
    cases e
    exact ⟨hl, fun r hm => (hr r hm).1⟩⟩, fun G' k => eq_self_list (k.get h) (List.all_eq_true.mpr fun r hm => (hr r hm).2)⟩
theorem thing_dict {G : GH} {n : Nat} (h : G[n]? = some (.dK [])) : Thing G (.loc n) :=
  ⟨okP_flat (by unfold okW; rw [tyOf_dK h]; rfl) rfl (by unfold lstOf; dsimp only; rw [h]), fun G' k => eq_self_dict (k.get h)⟩
theorem okR_dict {G : GH} {n : Nat} (h : G[n]? = some (.dK [])) : okR G (.loc n) :=
  okR_flat (by unfold okW; rw [tyOf_dK h]; rfl) rfl (by unfold lstOf; dsimp only; rw [h])
theorem thing_data {G : GH} {w : W} {d : PyData} (h1 : okW G w) (h2 : noFrl w = true) (h3 : lstOf G w = none) (h : ∀ G', Keeps G G' → toD 9 G' w = some d) : Thing G w :=
  ⟨okP_flat h1 h2 h3, fun G' k => eq_self_data (h G' k)⟩
/-- what is a picture by its look is one -/
theorem pic_of {G : GH} {w : W} (h : okP G w) (hb : isPicB G w = true) : ∃ (n : Nat) (ms : List Nat) (pic : List (List Int)) (wide : Nat), w = .loc n ∧ RowsAt G n ms (pic.map iW) ∧ Good pic wide := by
  unfold isPicB at hb
  cases e : lstOf G w with
  | none => rw [e] at hb; cases hb
  | some rs =>
    rw [e] at hb
    obtain ⟨n, rfl, hn⟩ := lstOf_some e
    simp only [Bool.and_eq_true, decide_eq_true_eq] at hb
    obtain ⟨⟨⟨h1, h2⟩, h3⟩, ⟨h4, h5⟩, h6⟩ := hb
    have key : ∀ r ∈ rs, ∃ m is, r = .loc m ∧ G[m]? = some (.lst (iW is)) ∧ is.length = lenOf G (rs.getD 0 .non) ∧ ∀ i ∈ is, 0 ≤ i ∧ i ≤ 15 := fun r hr => by
      have q := List.all_eq_true.mp h3 r hr
      have q6 := of_decide_eq_true (List.all_eq_true.mp h6 r hr)
      unfold cellsB at q
      cases e2 : lstOf G r with
      | none => rw [e2] at q; cases q
      | some cs =>
        rw [e2] at q
        obtain ⟨m, rfl, hm⟩ := lstOf_some e2
        have hc : ∀ (us : List W), us.all cellW = true → ∃ is : List Int, us = iW is ∧ ∀ i ∈ is, 0 ≤ i ∧ i ≤ 15 := fun us => by
          induction us with
          | nil => exact fun _ => ⟨[], rfl, fun i hi => by cases hi⟩
          | cons u us ih =>
            intro hu
            rw [List.all_cons, Bool.and_eq_true] at hu
            obtain ⟨is, rfl, hi⟩ := ih hu.2
            have hu1 := hu.1
            cases u with
            | int i =>
              simp [cellW, amongW] at hu1
              refine ⟨i :: is, rfl, fun j hj => ?_⟩
              rcases List.mem_cons.mp hj with rfl | hj
              · exact hu1
              · exact hi j hj
            | _ => cases hu1
        obtain ⟨is, rfl, hi⟩ := hc cs q
        refine ⟨m, is, rfl, hm, ?_, hi⟩
        unfold lenOf at q6 ⊢
        rw [e2] at q6
        rw [← q6]
        simp
    generalize lenOf G (rs.getD 0 .non) = wide at *
    have all : ∀ us : List W, (∀ r ∈ us, r ∈ rs) → ∃ (ms : List Nat) (pic : List (List Int)), us = ms.map W.loc ∧ Paired (fun m r => G[m]? = some (.lst r)) ms (pic.map iW) ∧ (∀ r ∈ pic, r.length = wide ∧ ∀ i ∈ r, 0 ≤ i ∧ i ≤ 15) := fun us => by
      induction us with
      | nil => exact fun _ => ⟨[], [], rfl, .nil, fun r hr => by cases hr⟩
      | cons u us ih =>
        intro hu
        obtain ⟨ms, pic, rfl, p1, p2⟩ := ih fun r hr => hu r (List.mem_cons_of_mem _ hr)
        obtain ⟨m, is, rfl, q1, q2, q3⟩ := key u (hu u List.mem_cons_self)
        refine ⟨m :: ms, is :: pic, rfl, .cons q1 p1, fun r hr => ?_⟩
        rcases List.mem_cons.mp hr with rfl | hr
        · exact ⟨q2, q3⟩
        · exact p2 r hr
    obtain ⟨ms, pic, rfl, p1, p2⟩ := all rs fun r hr => hr
    have hl : ms.length = pic.length := by have := p1.length; rw [List.length_map] at this; exact this
    rw [List.length_map] at h1 h2
    exact ⟨n, ms, pic, wide, rfl, ⟨hn, p1⟩, ⟨by omega, by omega, h4, h5, fun r hr => (p2 r hr).1, fun r hr => (p2 r hr).2⟩⟩
end Lk01
set_option Elab.async false
set_option linter.all false
set_option maxRecDepth 100000
set_option maxHeartbeats 4000000
namespace Lk01
open PySem PySem.Spec PyProof.Rows L2 Sy
/-! the law's own looks -/
theorem law_is_cell_eq {G : GH} {w : W} (h : okW G w) : m_law_is_cell [w] G = .ok (.bl (cellW w)) G := by
  refine mDef_ok [some w] ?_
  unfold b_law_is_cell
  cases w with
  | int i =>
    simp [cellW, amongW]
    by_cases h1 : 0 ≤ i
    · by_cases h2 : i < 16
      · have h3 : i ≤ 15 := by omega
        simp [h1, h2, h3]
      · have h3 : ¬ i ≤ 15 := by omega
        simp [h1, h2, h3]
    · simp [h1]
  | bl b => simp [cellW, amongW]
  | non => simp [cellW, amongW]
  | str x => simp [cellW, amongW]
  | tup ws => simp [cellW, amongW]
  | loc n =>
    have e : ∃ a, tyOf G (.val (.loc n)) = some a ∧ subTy a "int" = some false := by
      unfold okW tyOf at h
      unfold tyOf
      dsimp only at h ⊢
      cases e : G[n]? with
      | none => rw [e] at h; cases h
      | some o =>
        rw [e] at h
        cases o with
        | lst ws => exact ⟨_, rfl, by decide⟩
        | dK ws => exact ⟨_, rfl, by decide⟩
        | dT ws => exact ⟨_, rfl, by decide⟩
        | ins c fs => cases h
    obtain ⟨a, e1, e2⟩ := e
    have := isi_of e1 e2
    simp [cellW, amongW, this]
  | frl ws =>
    have := isi_of (G := G) (t := .val (.frl ws)) (a := "list") (b := "int") (r := false) rfl (by decide)
    simp [cellW, amongW, this]
  | ty n => cases h
  | cls n => cases h
  | exn n a => cases h
theorem ne_nil_tmp (L : List W) (G : GH) : fNe (.tmp L) (.tmp []) G = .ok (.val (.bl (!L.isEmpty))) G := by
  cases L with
  | nil => exact ne_nil G
  | cons w L =>
    have h2 : toDT G (.tmp []) = some (.list []) := rfl
    cases e : toDT G (.tmp (w :: L)) with
    | some d =>
      have e' : (mapO (toD 8 G) (w :: L)).map PyData.list = some d := e
      cases e3 : mapO (toD 8 G) (w :: L) with
      | none => rw [e3] at e'; cases e'
      | some ds =>
        rw [e3] at e'
        cases e'
        have hl := mapO_len e3
        rw [fNe_data e h2]
        cases ds with
        | nil => cases hl
        | cons d ds => rw [PyData.eqv, PyData.eqvAll]; rfl
    | none =>
      unfold fNe
      rw [e, h2]
      have hs : eqSeen (.tmp (w :: L)) (.tmp []) G = some false := by
        unfold eqSeen
        rw [rdl_tmp, rdl_tmp]
        dsimp only
        rw [if_pos (by simp)]
      dsimp only
      rw [hs]
      rfl
theorem filter_empty {α : Type} (p : α → Bool) (l : List α) : (l.filter fun x => !p x).isEmpty = l.all p := by
  induction l with
  | nil => rfl
  | cons a l ih =>
    rw [List.filter_cons, List.all_cons, ← ih]
    cases p a <;> simp
theorem okR.isl {G : GH} {r : W} (h : okR G r) : fIsi [.val r, .val (.ty "list")] G = .ok (.val (.bl (lstOf G r).isSome)) G := by
  cases e : lstOf G r with
  | none =>
    obtain ⟨a, h1, h2⟩ := lstOf_none h.ok h.nf e
    exact isi_of h1 h2
  | some cs =>
    obtain ⟨n, rfl, hn⟩ := lstOf_some e
    exact isi_lst_list hn
theorem law_good_eq {G : GH} {w : W} (h : okP G w) : m_law_good [w] G = .ok (.bl (isPicB G w)) G := by
  refine mDef_ok [some w, none, none] ?_
  unfold b_law_good isPicB
  cases e : lstOf G w with
  | none =>
    obtain ⟨a, h1, h2⟩ := lstOf_none h.ok h.nf e
    have := isi_of h1 h2
    rw [seq_yes (G1 := G) (by simp [this])]
    simp
  | some rs =>
    obtain ⟨n, rfl, hn⟩ := lstOf_some e
    obtain ⟨hl, hr⟩ := h.rs rs e
    have hlist := isi_lst_list hn
    have hlen := fLen_loc hn
    have hit := iterA_at hn
    have hl3 : rs.length ≤ 16777216 := by omega
    dsimp only
    by_cases i1 : 1 ≤ rs.length
    · by_cases i2 : rs.length ≤ 24
      · have j1 : 0 < rs.length := by omega
        have j2 : (rs.length : Int) < 25 := by omega
        rw [seq_no (G1 := G) (by simp [hlist, hlen, j1, j2])]
        have h0 : rs[0]? = some (rs.getD 0 .non) := by
          cases rs with
          | nil => cases i1
          | cons r rs => rfl
        have hm0 : rs.getD 0 .non ∈ rs := List.mem_of_getElem? h0
        have hix := fIx_loc0 hn h0
        have hc1 : compF [(n, rs)] (gN 1) (mNot (mTru (mBi fIsi (mConsT (mVar 1) (mConsT (mC (.ty "list")) mNilT))))) (mVar 1) [some (.loc n), none, none] rs G = .ok ((rs.filter fun r => !(lstOf G r).isSome).map id) G :=
          compF_filter (fun r => !(lstOf G r).isSome) id (still_of hn) fun r hm => ⟨_, rfl, by have := (hr r hm).isl; simp [this], fun _ => rfl⟩
        rw [List.map_id] at hc1
        have hne := ne_nil_tmp (rs.filter fun r => !(lstOf G r).isSome) G
        have hfe := filter_empty (fun r => (lstOf G r).isSome) rs
        rw [hfe] at hne
        clear hfe
        cases hA : rs.all fun r => (lstOf G r).isSome with
        | false =>
          rw [hA] at hne
          have hB : rs.all (cellsB G) = false := by
            obtain ⟨r, hm, hf⟩ := List.all_eq_false.mp hA
            refine List.all_eq_false.mpr ⟨r, hm, ?_⟩
            unfold cellsB
            cases e2 : lstOf G r with
            | none => exact Bool.false_ne_true
            | some cs => rw [e2] at hf; exact absurd rfl hf
          rw [hB]
          generalize (rs.filter fun r => !(lstOf G r).isSome) = L at *
          rw [seq_yes (G1 := G) (by simp [mComp_at, miA_at, hit, wipeS, hl3, hc1, hne])]
          simp
        | true =>
          rw [hA] at hne
          have hlens : ∀ r ∈ rs, fLen [.val r] G = .ok (.val (.int (lenOf G r))) G := fun r hm => by
            have hb := List.all_eq_true.mp hA r hm
            unfold lenOf
            cases e' : lstOf G r with
            | none => rw [e'] at hb; cases hb
            | some cs =>
              obtain ⟨k, rfl, hk⟩ := lstOf_some e'
              exact fLen_loc hk
          have hL0 := hlens _ hm0
          generalize hr0 : rs.getD 0 .non = r0 at *
          generalize (rs.filter fun r => !(lstOf G r).isSome) = L at *
          by_cases k1 : 1 ≤ lenOf G r0
          · by_cases k2 : lenOf G r0 ≤ 24
            · have j3 : 0 < lenOf G r0 := by omega
              have j4 : (lenOf G r0 : Int) < 25 := by omega
              rw [seq_no (G1 := G) (by simp [mComp_at, miA_at, hit, wipeS, hl3, hc1, hne, hix, hL0, j3, j4])]
              have hrw : ∀ r ∈ rs, ∀ s2, (sIf (mOr (mB (mBin fNe (mBi fLen (mConsT (mVar 1) mNilT)) (mBi fLen (mConsT (mBin fIx (mVar 0) (mC (.int 0))) mNilT)))) (mB (mBin fNe (mComp (miA (mVar 1)) (gN 2) (mNot (mTru (mCall m_law_is_cell [] (mCons (mVar 2) mNil)))) (mVar 2) [2]) (mLst mNil)))) (sRet (mC (.bl false))) sNext) [some (.loc n), some r, s2] G =
                  if (decide (lenOf G r = lenOf G r0) && cellsB G r) = true then .nx [some (.loc n), some r, s2] G else .rt (.bl false) G := fun r hm s2 => by
                have q1 := hlens r hm
                have hb := List.all_eq_true.mp hA r hm
                by_cases hq : lenOf G r = lenOf G r0
                · have hq' : (lenOf G r : Int) = lenOf G r0 := by rw [hq]
                  have hcb : cellsB G r = match lstOf G r with
                    | some cs => cs.all cellW
                    | none => false := rfl
                  cases e' : lstOf G r with
                  | none => rw [e'] at hb; cases hb
                  | some cs =>
                    rw [e'] at hcb
                    have hcb : cellsB G r = cs.all cellW := hcb
                    obtain ⟨k, rfl, hk⟩ := lstOf_some e'
                    obtain ⟨w1, w2⟩ := (hr _ hm).cs cs e'
                    have hc2 : compF [(k, cs)] (gN 2) (mNot (mTru (mCall m_law_is_cell [] (mCons (mVar 2) mNil)))) (mVar 2) [some (.loc n), some (.loc k), none] cs G = .ok ((cs.filter fun r => !cellW r).map id) G :=
                      compF_filter (fun r => !cellW r) id (still_of hk) fun r hm => ⟨_, rfl, by have := law_is_cell_eq (w2 r hm); simp [this], fun _ => rfl⟩
                    rw [List.map_id] at hc2
                    have hne2 := ne_nil_tmp (cs.filter fun r => !cellW r) G
                    rw [filter_empty, ← hcb] at hne2
                    have hit2 := iterA_at hk
                    have hl4 : cs.length ≤ 16777216 := by omega
                    generalize (cs.filter fun r => !cellW r) = L2 at *
                    rw [decide_eq_true hq]
                    cases hB : cellsB G (.loc k) with
                    | true =>
                      rw [hB] at hne2
                      rw [if_no (G1 := G) (by simp [q1, hix, hL0, hq', mComp_at, miA_at, hit2, wipeS, hl4, hc2, hne2])]
                      rfl
                    | false =>
                      rw [hB] at hne2
                      rw [if_yes (G1 := G) (by simp [q1, hix, hL0, hq', mComp_at, miA_at, hit2, wipeS, hl4, hc2, hne2])]
                      rfl
                · have hq' : ¬ (lenOf G r : Int) = lenOf G r0 := fun z => hq (Int.natCast_inj.mp z)
                  rw [if_yes (G1 := G) (by simp [q1, hix, hL0, hq']), decide_eq_false hq]
                  rfl
              rw [decide_eq_true i1, decide_eq_true i2, decide_eq_true k1, decide_eq_true k2]
              have hloop : ∀ (us : List W), (∀ r ∈ us, r ∈ rs) → ∀ s1 s2, ∃ s1', forL [(n, rs)] (gN 1) (sIf (mOr (mB (mBin fNe (mBi fLen (mConsT (mVar 1) mNilT)) (mBi fLen (mConsT (mBin fIx (mVar 0) (mC (.int 0))) mNilT)))) (mB (mBin fNe (mComp (miA (mVar 1)) (gN 2) (mNot (mTru (mCall m_law_is_cell [] (mCons (mVar 2) mNil)))) (mVar 2) [2]) (mLst mNil)))) (sRet (mC (.bl false))) sNext) us [some (.loc n), s1, s2] G =
                  if us.all (fun r => decide (lenOf G r = lenOf G r0) && cellsB G r) = true then .nx [some (.loc n), s1', s2] G else .rt (.bl false) G := fun us => by
                induction us with
                | nil => exact fun _ s1 s2 => ⟨s1, by rw [forL_end (still_of hn)]; rfl⟩
                | cons u us ih =>
                  intro hu s1 s2
                  have q := hrw u (hu u List.mem_cons_self) s2
                  cases hb : decide (lenOf G u = lenOf G r0) && cellsB G u with
                  | true =>
                    rw [hb] at q
                    obtain ⟨s1', hs⟩ := ih (fun r hr => hu r (List.mem_cons_of_mem _ hr)) (some u) s2
                    refine ⟨s1', ?_⟩
                    rw [forL_nx (still_of hn) (τ1 := [some (.loc n), some u, s2]) rfl q, hs, List.all_cons, hb]
                    rfl
                  | false =>
                    rw [hb] at q
                    refine ⟨s1, ?_⟩
                    rw [forL_rt (still_of hn) (τ1 := [some (.loc n), some u, s2]) rfl q, List.all_cons, hb]
                    rfl
              obtain ⟨s1', hs⟩ := hloop rs (fun r hr => hr) none none
              have hall : (rs.all fun r => decide (lenOf G r = lenOf G r0) && cellsB G r) = (rs.all (cellsB G) && rs.all fun r => decide (lenOf G r = lenOf G r0)) := by
                clear hs hloop hrw
                induction rs with
                | nil => rfl
                | cons a l ih =>
                  have : ∀ l : List W, (l.all fun r => decide (lenOf G r = lenOf G r0) && cellsB G r) = (l.all (cellsB G) && l.all fun r => decide (lenOf G r = lenOf G r0)) := fun l => by
                    induction l with
                    | nil => rfl
                    | cons a l ih =>
                      rw [List.all_cons, List.all_cons, List.all_cons, ih]
                      cases decide (lenOf G a = lenOf G r0) <;> cases cellsB G a <;> simp
                  exact this _
              have hfor : sFor (miA (mVar 0)) (gN 1) (sIf (mOr (mB (mBin fNe (mBi fLen (mConsT (mVar 1) mNilT)) (mBi fLen (mConsT (mBin fIx (mVar 0) (mC (.int 0))) mNilT)))) (mB (mBin fNe (mComp (miA (mVar 1)) (gN 2) (mNot (mTru (mCall m_law_is_cell [] (mCons (mVar 2) mNil)))) (mVar 2) [2]) (mLst mNil)))) (sRet (mC (.bl false))) sNext) [some (.loc n), none, none] G = if (rs.all fun r => decide (lenOf G r = lenOf G r0) && cellsB G r) = true then .nx [some (.loc n), s1', none] G else .rt (.bl false) G := by
                have hmi : miA (mVar 0) [some (.loc n), none, none] G = .ok (rs, [(n, rs)]) G := by simp [miA_at, hit]
                rw [sFor_at, hmi, R.toS_ok]
                exact hs
              rw [hall] at hfor
              rw [Bool.true_and, Bool.true_and, Bool.true_and]
              cases hbb : (rs.all (cellsB G) && rs.all fun r => decide (lenOf G r = lenOf G r0)) with
              | true =>
                rw [hbb] at hfor
                rw [seq_nx hfor]
                simp
              | false =>
                rw [hbb] at hfor
                exact seq_rt hfor
            · have j3 : 0 < lenOf G r0 := by omega
              have j4 : ¬ (lenOf G r0 : Int) < 25 := by omega
              rw [seq_yes (G1 := G) (by simp [mComp_at, miA_at, hit, wipeS, hl3, hc1, hne, hix, hL0, j3, j4])]
              simp [k2]
          · have j3 : ¬ 0 < lenOf G r0 := by omega
            rw [seq_yes (G1 := G) (by simp [mComp_at, miA_at, hit, wipeS, hl3, hc1, hne, hix, hL0, j3])]
            simp [k1]
      · have j1 : 0 < rs.length := by omega
        have j2 : ¬ (rs.length : Int) < 25 := by omega
        rw [seq_yes (G1 := G) (by simp [hlist, hlen, j1, j2])]
        simp [i2]
    · have j1 : ¬ 0 < rs.length := by omega
      rw [seq_yes (G1 := G) (by simp [hlist, hlen, j1])]
      simp [i1]
end Lk01
set_option Elab.async false
set_option linter.all false
set_option maxRecDepth 100000
set_option maxHeartbeats 4000000
namespace Lk01
open PySem PySem.Spec PyProof.Rows L2 Sy
/-! odd cells, spoilt pictures -/
theorem law_odd_eq (c : Int) (G : GH) : ∃ u, m_law_odd [.int c] G = .ok u (G ++ [.lst [.int 0]]) ∧ okW (G ++ [.lst [.int 0]]) u ∧ cellW u = false ∧ reflW u = true := by
  have l9 : Nat.log2 9 < 9000 := by decide
  have hp20 := fPow_20
  have hpos : (0 : Int) < 10 ^ 20 := by decide
  have hfar := Int.emod_nonneg (c / 9) (show (10 ^ 20 : Int) ≠ 0 by decide)
  generalize hF : c / 9 % 10 ^ 20 = far at hfar
  have hm20 : ∀ G, fMod (.val (.int (c / 9))) (.val (.int (10 ^ 20))) G = .ok (.val (.int far)) G := fun G => by rw [fMod_int hpos, hF]
  have hn1 := last_get G (.lst [.int 0])
  obtain ⟨u, hu, hix⟩ := fIx_mod (ws := [W.int (-1), .int 16, .bl true, .non, .str "1", .loc G.length, .int (16 + far), .int (-1 - far), .bl false]) (z := c) (m := 9) (by decide) rfl (G ++ [.lst [.int 0]])
  have hix' : fIx (.tmp [W.int (-1), .int 16, .bl true, .non, .str "1", .loc G.length, .int (16 + far), .int (-1 - far), .bl false]) (.val (.int (c % 9))) (G ++ [.lst [.int 0]]) = .ok (.val u) (G ++ [.lst [.int 0]]) := hix
  refine ⟨u, mDef_ok [some (.int c), none] ?_, ?_⟩
  · unfold b_law_odd
    rw [seq_nx (τ1 := [some (.int c), some (.int far)]) (G1 := G) (by
      generalize (10 ^ 20 : Int) = tt at *
      simp [fFdiv_int, l9, hp20, hm20])]
    simp [fMod_int, hix']
  · clear hix hix'
    simp at hu
    rcases hu with rfl | rfl | rfl | rfl | rfl | rfl | rfl | rfl | rfl
    · exact ⟨rfl, rfl, rfl⟩
    · exact ⟨rfl, rfl, rfl⟩
    · exact ⟨rfl, rfl, rfl⟩
    · exact ⟨rfl, rfl, rfl⟩
    · exact ⟨rfl, rfl, rfl⟩
    · exact ⟨okW_list hn1, rfl, rfl⟩
    · refine ⟨rfl, ?_, rfl⟩
      have : ¬ 16 + far ≤ 15 := by omega
      show (decide (0 ≤ 16 + far) && decide (16 + far ≤ 15)) = false
      rw [decide_eq_false this, Bool.and_false]
    · refine ⟨rfl, ?_, rfl⟩
      have : ¬ 0 ≤ -1 - far := by omega
      show (decide (0 ≤ -1 - far) && decide (-1 - far ≤ 15)) = false
      rw [decide_eq_false this, Bool.false_and]
    · exact ⟨rfl, rfl, rfl⟩
theorem okW_set {G : GH} {w : W} {a : Nat} {us vs : List W} (h : okW G w) (ha : G[a]? = some (.lst us)) : okW (G.set a (.lst vs)) w := by
  cases w with
  | loc n =>
    have hla := (List.getElem?_eq_some_iff.mp ha).1
    unfold okW tyOf at h ⊢
    dsimp only at h ⊢
    rw [set_get hla]
    by_cases z : n = a
    · rw [if_pos z]; rfl
    · rw [if_neg z]; exact h
  | _ => exact h
theorem okR_list {G : GH} {m : Nat} {is : List W} (h : G[m]? = some (.lst is)) (hl : is.length ≤ 1000) (hc : ∀ c ∈ is, okW G c) : okR G (.loc m) :=
  ⟨okW_list h, rfl, fun cs e => by
    rw [lstOf_loc h] at e
    cases e
    exact ⟨by omega, hc⟩⟩
theorem okR_row {G : GH} {n a : Nat} {ms : List Nat} {pic : List (List Int)} {wide : Nat} (h : RowsAt G n ms (pic.map iW)) (g : Good pic wide) (ha : a ∈ ms) : okR G (.loc a) ∧ reflW (.loc a) = true := by
  obtain ⟨i, hi⟩ := List.mem_iff_getElem?.mp ha
  obtain ⟨r, z1, z2⟩ := row_of h hi
  exact ⟨okR_ints z2 (by have := g.row r (List.mem_of_getElem? z1); have := g.w1; omega), rfl⟩
/-- a list of rows in which one is another thing -/
theorem thing_put {G : GH} {n k y : Nat} {ms : List Nat} {pic : List (List Int)} {wide : Nat} {s : W} (h : RowsAt G n ms (pic.map iW)) (g : Good pic wide) (hs : okR G s ∧ reflW s = true) (hk : G[k]? = some (.lst ((ms.map W.loc).set y s))) : Thing G (.loc k) := by
  have hl : ms.length = pic.length := by have := h.len; rw [List.length_map] at this; exact this
  refine thing_list hk (by rw [List.length_set, List.length_map]; have := g.h1; omega) fun r hr => ?_
  rcases List.mem_or_eq_of_mem_set hr with z | z
  · obtain ⟨m, hm, rfl⟩ := List.mem_map.mp z
    exact okR_row h g hm
  · rw [z]; exact hs
/-- lists of new rows -/
theorem thing_new {G : GH} {ws : List W} {f : W → List W} (hl : ws.length ≤ 1000) (hf : ∀ w ∈ ws, (f w).length ≤ 1000 ∧ ∀ c ∈ f w, ∃ i : Int, c = .int i) :
    Thing (G ++ (ws.map fun w => GO.lst (f w)) ++ [.lst (locs G.length ws.length)]) (.loc (G ++ ws.map fun w => GO.lst (f w)).length) := by
  refine thing_list (last_get _ _) (by rw [locs_len]; omega) fun r hr => ?_
  unfold Sy.locs at hr
  obtain ⟨i, hi, rfl⟩ := List.mem_map.mp hr
  have hi' := List.mem_range.mp hi
  have e : (G ++ (ws.map fun w => GO.lst (f w)) ++ [.lst (locs G.length ws.length)])[G.length + i]? = some (.lst (f ws[i])) := by
    refine get_mono ?_ _
    rw [List.getElem?_append_right (by omega), show G.length + i - G.length = i by omega, List.getElem?_map, List.getElem?_eq_getElem hi']
    rfl
  obtain ⟨q1, q2⟩ := hf _ (List.getElem_mem hi')
  exact ⟨okR_list e q1 fun c hc => by obtain ⟨j, rfl⟩ := q2 c hc; rfl, rfl⟩
theorem iW_int {is : List Int} {c : W} (h : c ∈ iW is) : ∃ i : Int, c = .int i := by
  obtain ⟨i, _, rfl⟩ := List.mem_map.mp h
  exact ⟨i, rfl⟩
theorem spoilt_thing {G : GH} {n : Nat} {ms0 : List Nat} {pic : List (List Int)} {wide : Nat} (h0 : RowsAt G n ms0 (pic.map iW)) (g : Good pic wide) (c : Int) : ∃ w G', m_law_spoilt [.loc n, .int c] G = .ok w G' ∧ Keeps G G' ∧ Thing G' w := by
  suffices hh : ∃ w G', b_law_spoilt [some (.loc n), some (.int c), none, none, none, none, none] G = .rt w G' ∧ Keeps G G' ∧ Thing G' w by
    obtain ⟨w, G', h1, h2⟩ := hh
    exact ⟨w, G', mDef_ok _ h1, h2⟩
  have gh0 := g.h0
  have gh1 := g.h1
  have gw0 := g.w0
  have gw1 := g.w1
  have hcp := copied_eq h0 (by rw [List.length_map]; omega)
  have hR := laidR_rows G (pic.map iW)
  have hK : Keeps G (laidR G (pic.map iW)) := Keeps.app _ _
  have hnew : ∀ m ∈ places G.length (pic.map iW).length, G.length ≤ m ∧ m ≠ G.length + (pic.map iW).length := fun m hm => by
    obtain ⟨i, hi, rfl⟩ := List.mem_map.mp hm
    have := List.mem_range.mp hi
    omega
  have hnd := places_nodup G.length (pic.map iW).length
  have hF0 : G.length ≤ G.length + (pic.map iW).length := by omega
  generalize G.length + (pic.map iW).length = F at *
  generalize places G.length (pic.map iW).length = ms at *
  generalize laidR G (pic.map iW) = G1 at *
  have hml : ms.length = pic.length := by have := hR.len; rw [List.length_map] at this; exact this
  obtain ⟨y, hy, hyl⟩ := mod_nat (c / 16) (m := pic.length) gh0
  obtain ⟨x, hx, hxl⟩ := mod_nat (c / 512) (m := wide) gw0
  obtain ⟨k, hk, hk16⟩ := mod_nat c (m := 16) (by decide)
  have hk' : c % 16 = k := hk
  have l16 : Nat.log2 16 < 9000 := by decide
  have l512 : Nat.log2 512 < 9000 := by decide
  have l163 : Nat.log2 16384 < 9000 := by decide
  have ey : pic[y]? = some pic[y] := List.getElem?_eq_getElem hyl
  obtain ⟨a, ea, ha⟩ := row_get hR ey
  have ham : a ∈ ms := List.mem_of_getElem? ea
  obtain ⟨ha0, haF⟩ := hnew a ham
  have hrl : pic[y].length = wide := g.row _ (List.getElem_mem hyl)
  generalize pic[y] = R0 at *
  have d1 := fLen_loc hR.top
  rw [List.length_map, hml] at d1
  have d2 : ∀ G, fMod (.val (.int (c / 16))) (.val (.int pic.length)) G = .ok (.val (.int y)) G := fun G => by rw [fMod_int (by omega), hy]
  have d3 := fIx_loc (k := y) hR.top (by rw [List.getElem?_map, ea]; rfl : (ms.map W.loc)[y]? = some (.loc a))
  have hwl : (ms.map W.loc).length = pic.length := by rw [List.length_map, hml]
  unfold b_law_spoilt
  rw [seq_nx (τ1 := [some (.loc n), some (.int c), some (.loc F), none, none, none, none]) (G1 := G1) (by simp [hcp])]
  rw [seq_nx (τ1 := [some (.loc n), some (.int c), some (.loc F), none, some (.int y), none, none]) (G1 := G1) (by simp [fFdiv_int, l16, d1, d2])]
  rw [seq_nx (τ1 := [some (.loc n), some (.int c), some (.loc F), some (.loc a), some (.int y), none, none]) (G1 := G1) (by simp [d3])]
  have lt : ∀ (j : Int) (G : GH), mB (mBin fLt (mBin fMod (mVar 1) (mC (.int 16))) (mC (.int j))) [some (.loc n), some (.int c), some (.loc F), some (.loc a), some (.int y), none, none] G = .ok (decide ((k : Int) < j)) G := fun j G => by
    simp [fMod_int, hk']
  have eq : ∀ (j : Int) (G : GH), mB (mBin fEq (mBin fMod (mVar 1) (mC (.int 16))) (mC (.int j))) [some (.loc n), some (.int c), some (.loc F), some (.loc a), some (.int y), none, none] G = .ok (decide ((k : Int) = j)) G := fun j G => by
    simp [fMod_int, hk']
  by_cases k7 : k < 7
  · -- a cell
    have e := lt 7 G1
    rw [decide_eq_true (by omega)] at e
    rw [seq_yes e]
    obtain ⟨u, hu, hu2, _⟩ := law_odd_eq (c / 16384) G1
    have ha3 : (G1 ++ [GO.lst [.int 0]])[a]? = some (.lst (iW R0)) := get_mono ha _
    have hl3 := fLen_loc ha3
    rw [List.length_map, hrl] at hl3
    have hm3 : ∀ G, fMod (.val (.int (c / 512))) (.val (.int wide)) G = .ok (.val (.int x)) G := fun G => by rw [fMod_int (by omega), hx]
    have hput := sPut_ok (mo := mVar 3) (mi := mBin fMod (mBin fFdiv (mVar 1) (mC (.int 512))) (mBi fLen (mConsT (mVar 3) mNilT))) (m := mCall m_law_odd [] (mCons (mBin fFdiv (mVar 1) (mC (.int 16384))) mNil)) (τ := [some (.loc n), some (.int c), some (.loc F), some (.loc a), some (.int y), none, none]) (G := G1)
      (G1 := G1 ++ [.lst [.int 0]]) (G2 := G1 ++ [.lst [.int 0]]) (G3 := G1 ++ [.lst [.int 0]]) (w := u) (n := a) (k := x) (us := iW R0)
      (by simp [fFdiv_int, l163, hu]) (by simp) (by simp [fFdiv_int, l512, hl3, hm3]) ha3 (by rw [List.length_map]; omega)
    have hla := (List.getElem?_eq_some_iff.mp ha3).1
    refine ⟨.loc F, (G1 ++ [GO.lst [.int 0]]).set a (.lst ((iW R0).set x u)), seq_rt ?_, ((hK.two _).set ha0 _), ?_⟩
    · rw [seq_nx hput]
      simp
    · have htop : ((G1 ++ [GO.lst [.int 0]]).set a (.lst ((iW R0).set x u)))[F]? = some (.lst (ms.map W.loc)) := by
        rw [set_get hla, if_neg (fun z => haF z.symm)]
        exact get_mono hR.top _
      refine thing_list htop (by omega) fun r hr => ?_
      obtain ⟨m, hm, rfl⟩ := List.mem_map.mp hr
      refine ⟨?_, rfl⟩
      by_cases hma : m = a
      · subst hma
        refine okR_list (is := (iW R0).set x u) (by rw [set_get hla, if_pos rfl]) (by rw [List.length_set, List.length_map]; omega) fun v hv => ?_
        refine okW_set ?_ ha3
        rcases List.mem_or_eq_of_mem_set hv with z | z
        · obtain ⟨i, rfl⟩ := iW_int z; rfl
        · rw [z]; exact hu2
      · obtain ⟨i, hi⟩ := List.mem_iff_getElem?.mp hm
        obtain ⟨r, z1, z2⟩ := row_of hR hi
        have hrw := g.row r (List.mem_of_getElem? z1)
        refine okR_ints (is := r) ?_ (by omega)
        rw [set_get hla, if_neg hma]
        exact get_mono z2 _
  have e := lt 7 G1
  rw [decide_eq_false (by omega)] at e
  rw [seq_no e]
  clear e
  by_cases c7 : k = 7
  · -- a row longer, shorter
    have e := eq 7 G1
    rw [decide_eq_true (by omega)] at e
    rw [seq_yes e]
    clear e
    have ha1 := fAdd_lt (us := [W.int 3]) ha (by rw [List.length_map]; simp; omega)
    have ha2 := fSl_loc (get_mono ha [GO.lst (iW R0 ++ [.int 3])]) (some ((1 : Nat) : Int)) none
    rw [cut_from] at ha2
    have ha2' : fSl (.val (.loc a)) (some 1) none (G1 ++ [GO.lst (iW R0 ++ [.int 3])]) = .ok (.tmp ((iW R0).drop 1)) (G1 ++ [GO.lst (iW R0 ++ [.int 3])]) := ha2
    obtain ⟨u, hu, hix⟩ := fIx_mod (ws := [W.loc G1.length, .loc (G1.length + 1)]) (z := c / 512) (m := 2) (by decide) rfl (G1 ++ [.lst (iW R0 ++ [.int 3]), .lst ((iW R0).drop 1)])
    have hix' : fIx (.tmp [W.loc G1.length, .loc (G1.length + 1)]) (.val (.int (c / 512 % 2))) (G1 ++ [.lst (iW R0 ++ [.int 3]), .lst ((iW R0).drop 1)]) = .ok (.val u) (G1 ++ [.lst (iW R0 ++ [.int 3]), .lst ((iW R0).drop 1)]) := hix
    have hput := sPut_ok (mo := mVar 2) (mi := mVar 4) (m := mBin fIx (mLst (mCons (mBin fAdd (mVar 3) (mLst (mCons (mC (.int 3)) mNil))) (mCons (mSl (mVar 3) (mP (mC (.int 1))) mNoP) mNil))) (mBin fMod (mBin fFdiv (mVar 1) (mC (.int 512))) (mC (.int 2)))) (τ := [some (.loc n), some (.int c), some (.loc F), some (.loc a), some (.int y), none, none]) (G := G1)
      (G1 := G1 ++ [.lst (iW R0 ++ [.int 3]), .lst ((iW R0).drop 1)]) (G2 := G1 ++ [.lst (iW R0 ++ [.int 3]), .lst ((iW R0).drop 1)]) (G3 := G1 ++ [.lst (iW R0 ++ [.int 3]), .lst ((iW R0).drop 1)]) (w := u) (n := F) (k := y) (us := ms.map W.loc)
      (by
        generalize (iW R0 ++ [W.int 3]) = A at *
        generalize (iW R0).drop 1 = B at *
        simp [ha1, ha2', fFdiv_int, l512, fMod_int, hix']) (by simp) (by simp) (get_mono hR.top _) (by omega)
    rw [seq_nx hput]
    have hQ : RowsAt (G1 ++ [.lst (iW R0 ++ [.int 3]), .lst ((iW R0).drop 1)]) F ms (pic.map iW) := hR.mono _
    have hq0 : (G1 ++ [.lst (iW R0 ++ [.int 3]), .lst ((iW R0).drop 1)])[G1.length]? = some (.lst (iW R0 ++ [.int 3])) := by simp
    have hq1 : (G1 ++ [.lst (iW R0 ++ [.int 3]), .lst ((iW R0).drop 1)])[G1.length + 1]? = some (.lst ((iW R0).drop 1)) := by simp
    have hFl := (List.getElem?_eq_some_iff.mp hR.top).1
    have hKK := (hK.two [.lst (iW R0 ++ [.int 3]), .lst ((iW R0).drop 1)]).set hF0 (.lst ((ms.map W.loc).set y u))
    have hlA : (iW R0 ++ [W.int 3]).length ≤ 1000 := by simp; omega
    have hlB : ((iW R0).drop 1).length ≤ 1000 := by simp; omega
    have hcA : ∀ v ∈ iW R0 ++ [W.int 3], ∃ i : Int, v = .int i := fun v hv => by
      rcases List.mem_append.mp hv with z | z
      · exact iW_int z
      · exact ⟨3, by simpa using z⟩
    have hcB : ∀ v ∈ (iW R0).drop 1, ∃ i : Int, v = .int i := fun v hv => iW_int (List.mem_of_mem_drop hv)
    generalize (iW R0 ++ [W.int 3]) = A at *
    generalize (iW R0).drop 1 = B at *
    have hsF := fun j => set_get (j := j) (o := .lst ((ms.map W.loc).set y u)) (m := F) (show F < (G1 ++ [GO.lst A, .lst B]).length by simp; omega)
    have hQs : ∀ m ∈ ms, ∃ r ∈ pic, ((G1 ++ [GO.lst A, .lst B]).set F (.lst ((ms.map W.loc).set y u)))[m]? = some (.lst (iW r)) := fun m hm => by
      obtain ⟨i, hi⟩ := List.mem_iff_getElem?.mp hm
      obtain ⟨r, z1, z2⟩ := row_of hQ hi
      exact ⟨r, List.mem_of_getElem? z1, by rw [hsF, if_neg (hnew m hm).2]; exact z2⟩
    refine ⟨.loc F, (G1 ++ [GO.lst A, .lst B]).set F (.lst ((ms.map W.loc).set y u)), ?_, hKK, ?_⟩
    · generalize (G1 ++ [GO.lst A, .lst B]).set F (.lst ((ms.map W.loc).set y u)) = G9
      have e8 := eq 8 G9
      have e9 := eq 9 G9
      have e10 := eq 10 G9
      have e11 := eq 11 G9
      have e12 := lt 12 G9
      rw [decide_eq_false (by omega)] at e8 e9 e10 e11
      rw [decide_eq_true (by omega)] at e12
      rw [seq_no e8, seq_no e9, seq_no e10, seq_no e11]
      have e12' : mB (mBin fLt (mBin fMod (mVar 1) (mC (.int 16))) (mC (.int 12))) [some (.loc n), some (.int c), some (.loc F), some (.loc a), some (.int y), none, none] G9 = .ok true G9 := e12
      rw [sRet_at, mF_at, mIf_at, e12']
      simp
    · refine thing_list (by rw [hsF, if_pos rfl]) (by rw [List.length_set]; omega) fun r hr => ?_
      have hA2 : G1.length ≠ F := by omega
      have hB2 : G1.length + 1 ≠ F := by omega
      rcases List.mem_or_eq_of_mem_set hr with z | z
      · obtain ⟨m, hm, rfl⟩ := List.mem_map.mp z
        obtain ⟨r, z1, z2⟩ := hQs m hm
        exact ⟨okR_ints z2 (by have := g.row r z1; omega), rfl⟩
      · rw [z]
        simp at hu
        rcases hu with rfl | rfl
        · exact ⟨okR_list (is := A) (by rw [hsF, if_neg hA2]; exact hq0) hlA fun v hv => by obtain ⟨i, rfl⟩ := hcA v hv; rfl, rfl⟩
        · exact ⟨okR_list (is := B) (by rw [hsF, if_neg hB2]; exact hq1) hlB fun v hv => by obtain ⟨i, rfl⟩ := hcB v hv; rfl, rfl⟩
  have e := eq 7 G1
  rw [decide_eq_false (by omega)] at e
  rw [seq_no e]
  clear e
  by_cases c8 : k = 8
  · -- another thing in a row's place
    have e := eq 8 G1
    rw [decide_eq_true (by omega)] at e
    rw [seq_yes e]
    clear e
    have ht := fTuple_loc ha
    obtain ⟨u, hu, hix⟩ := fIx_mod (ws := [W.tup (iW R0), .non, .str "00", .int 5, .loc G1.length]) (z := c / 512) (m := 5) (by decide) rfl (G1 ++ [.dK []])
    have hix' : fIx (.tmp [W.tup (iW R0), .non, .str "00", .int 5, .loc G1.length]) (.val (.int (c / 512 % 5))) (G1 ++ [.dK []]) = .ok (.val u) (G1 ++ [.dK []]) := hix
    have hput := sPut_ok (mo := mVar 2) (mi := mVar 4) (m := mBin fIx (mLst (mCons (mBi fTuple (mConsT (mVar 3) mNilT)) (mCons (mC .non) (mCons (mC (.str "00")) (mCons (mC (.int 5)) (mCons mDict0 mNil)))))) (mBin fMod (mBin fFdiv (mVar 1) (mC (.int 512))) (mC (.int 5)))) (τ := [some (.loc n), some (.int c), some (.loc F), some (.loc a), some (.int y), none, none]) (G := G1)
      (G1 := G1 ++ [.dK []]) (G2 := G1 ++ [.dK []]) (G3 := G1 ++ [.dK []]) (w := u) (n := F) (k := y) (us := ms.map W.loc)
      (by
        generalize iW R0 = A at *
        simp [ht, fFdiv_int, l512, fMod_int, hix']) (by simp) (by simp) (get_mono hR.top _) (by omega)
    rw [seq_nx hput]
    have hQ : RowsAt (G1 ++ [.dK []]) F ms (pic.map iW) := hR.mono _
    have hq0 : (G1 ++ [GO.dK []])[G1.length]? = some (.dK []) := last_get _ _
    have hFl := (List.getElem?_eq_some_iff.mp hR.top).1
    have hKK := (hK.two [.dK []]).set hF0 (.lst ((ms.map W.loc).set y u))
    have hsF := fun j => set_get (j := j) (o := .lst ((ms.map W.loc).set y u)) (m := F) (show F < (G1 ++ [GO.dK []]).length by simp; omega)
    have hQs : ∀ m ∈ ms, ∃ r ∈ pic, ((G1 ++ [GO.dK []]).set F (.lst ((ms.map W.loc).set y u)))[m]? = some (.lst (iW r)) := fun m hm => by
      obtain ⟨i, hi⟩ := List.mem_iff_getElem?.mp hm
      obtain ⟨r, z1, z2⟩ := row_of hQ hi
      exact ⟨r, List.mem_of_getElem? z1, by rw [hsF, if_neg (hnew m hm).2]; exact z2⟩
    refine ⟨.loc F, (G1 ++ [GO.dK []]).set F (.lst ((ms.map W.loc).set y u)), ?_, hKK, ?_⟩
    · generalize (G1 ++ [GO.dK []]).set F (.lst ((ms.map W.loc).set y u)) = G9
      have e9 := eq 9 G9
      have e10 := eq 10 G9
      have e11 := eq 11 G9
      have e12 := lt 12 G9
      rw [decide_eq_false (by omega)] at e9 e10 e11
      rw [decide_eq_true (by omega)] at e12
      rw [seq_no e9, seq_no e10, seq_no e11]
      have e12' : mB (mBin fLt (mBin fMod (mVar 1) (mC (.int 16))) (mC (.int 12))) [some (.loc n), some (.int c), some (.loc F), some (.loc a), some (.int y), none, none] G9 = .ok true G9 := e12
      rw [sRet_at, mF_at, mIf_at, e12']
      simp
    · refine thing_list (by rw [hsF, if_pos rfl]) (by rw [List.length_set]; omega) fun r hr => ?_
      have hA2 : G1.length ≠ F := by omega
      rcases List.mem_or_eq_of_mem_set hr with z | z
      · obtain ⟨m, hm, rfl⟩ := List.mem_map.mp z
        obtain ⟨r, z1, z2⟩ := hQs m hm
        exact ⟨okR_ints z2 (by have := g.row r z1; omega), rfl⟩
      · rw [z]
        simp at hu
        rcases hu with rfl | rfl | rfl | rfl | rfl
        · exact ⟨okR_flat rfl rfl rfl, rfl⟩
        · exact ⟨okR_flat rfl rfl rfl, rfl⟩
        · exact ⟨okR_flat rfl rfl rfl, rfl⟩
        · exact ⟨okR_flat rfl rfl rfl, rfl⟩
        · exact ⟨okR_dict (by rw [hsF, if_neg hA2]; exact hq0), rfl⟩
  have e := eq 8 G1
  rw [decide_eq_false (by omega)] at e
  rw [seq_no e]
  clear e
  have hit := iterA_at hR.top
  have hwl9 : (ms.map W.loc).length ≤ 16777216 := by omega
  by_cases c9 : k = 9
  · -- empty rows
    have e := eq 9 G1
    rw [decide_eq_true (by omega)] at e
    rw [seq_yes e]
    clear e
    have hc : compF [(F, ms.map W.loc)] (gN 5) mYes (mLst mNil) [some (.loc n), some (.int c), some (.loc F), some (.loc a), some (.int y), none, none] (ms.map W.loc) G1 = .ok (locs G1.length (ms.map W.loc).length) (G1 ++ (ms.map W.loc).map fun _ => GO.lst []) :=
      compF_alloc (fun _ => []) (fun xs => still_of (get_mono hR.top xs)) fun w hw xs => ⟨_, rfl, rfl, by simp⟩
    refine ⟨_, _, seq_rt ?_, ((hK.two _).two _), thing_new (f := fun _ => []) (ws := ms.map W.loc) (by omega) fun w _ => ⟨by simp, fun c hc => by cases hc⟩⟩
    generalize (G1 ++ (ms.map W.loc).map fun _ => GO.lst []) = G2 at *
    generalize locs G1.length (ms.map W.loc).length = X at *
    generalize ms.map W.loc = us at *
    simp [mComp_at, miA_at, hit, wipeS, hwl9, hc]
  have e := eq 9 G1
  rw [decide_eq_false (by omega)] at e
  rw [seq_no e]
  clear e
  by_cases c10 : k = 10
  · -- too many rows
    have e := eq 10 G1
    rw [decide_eq_true (by omega)] at e
    rw [seq_yes e]
    clear e
    have hc : compF [] (gN 6) mYes (mBi fList (mConsT (mVar 3) mNilT)) [some (.loc n), some (.int c), some (.loc F), some (.loc a), some (.int y), none, none] (rangeW 0 25) G1 = .ok (locs G1.length (rangeW 0 25).length) (G1 ++ (rangeW 0 25).map fun _ => GO.lst (iW R0)) :=
      compF_alloc (fun _ => iW R0) (fun xs => still_nil) fun w hw xs => ⟨_, rfl, rfl, by have := fList_loc (get_mono ha xs); simp [this]⟩
    have hir := iterR_nat 25 (by decide) G1
    have hir' : iterR [.int 25] G1 = .ok (rangeW 0 25, []) G1 := hir
    have hrl25 : (rangeW 0 25).length ≤ 1000 := by rw [rangeW_len]; decide
    generalize rangeW 0 25 = us at *
    refine ⟨_, _, seq_rt ?_, ((hK.two _).two _), thing_new (f := fun _ => iW R0) (ws := us) (by omega) fun w _ => ⟨by rw [List.length_map]; omega, fun c hc => iW_int hc⟩⟩
    generalize (G1 ++ us.map fun _ => GO.lst (iW R0)) = G2 at *
    generalize locs G1.length us.length = X at *
    have : us.length ≤ 16777216 := by omega
    simp [mComp_at, miR_at, hir', wipeS, this, hc]
  have e := eq 10 G1
  rw [decide_eq_false (by omega)] at e
  rw [seq_no e]
  clear e
  by_cases c11 : k = 11
  · -- too wide
    have e := eq 11 G1
    rw [decide_eq_true (by omega)] at e
    rw [seq_yes e]
    clear e
    obtain ⟨Z, hZ⟩ : ∃ Z, Z = List.replicate 25 (W.int (c / 512 % 16)) := ⟨_, rfl⟩
    have hm25 : ∀ G, fMul (.tmp [.int (c / 512 % 16)]) (.val (.int 25)) G = .ok (.tmp Z) G := fun G => by rw [hZ]; rfl
    have hc : compF [(F, ms.map W.loc)] (gN 5) mYes (mBin fMul (mLst (mCons (mBin fMod (mBin fFdiv (mVar 1) (mC (.int 512))) (mC (.int 16))) mNil)) (mC (.int 25))) [some (.loc n), some (.int c), some (.loc F), some (.loc a), some (.int y), none, none] (ms.map W.loc) G1 = .ok (locs G1.length (ms.map W.loc).length) (G1 ++ (ms.map W.loc).map fun _ => GO.lst Z) :=
      compF_alloc (fun _ => Z) (fun xs => still_of (get_mono hR.top xs)) fun w hw xs => ⟨_, rfl, rfl, by simp [fFdiv_int, l512, fMod_int, hm25]⟩
    have hZl : Z.length = 25 := by rw [hZ]; simp
    have hZi : ∀ v ∈ Z, ∃ i : Int, v = .int i := fun v hv => by
      rw [hZ] at hv
      exact ⟨_, (List.mem_replicate.mp hv).2⟩
    clear hZ
    refine ⟨_, _, seq_rt ?_, ((hK.two _).two _), thing_new (f := fun _ => Z) (ws := ms.map W.loc) (by omega) fun w _ => ⟨by omega, fun c hc => hZi c hc⟩⟩
    generalize (G1 ++ (ms.map W.loc).map fun _ => GO.lst Z) = G2 at *
    generalize locs G1.length (ms.map W.loc).length = X at *
    generalize ms.map W.loc = us at *
    simp [mComp_at, miA_at, hit, wipeS, hwl9, hc]
  have e := eq 11 G1
  rw [decide_eq_false (by omega)] at e
  rw [seq_no e]
  clear e
  -- another thing
  have e12 := lt 12 G1
  rw [decide_eq_false (by omega)] at e12
  have e12' : mB (mBin fLt (mBin fMod (mVar 1) (mC (.int 16))) (mC (.int 12))) [some (.loc n), some (.int c), some (.loc F), some (.loc a), some (.int y), none, none] G1 = .ok false G1 := e12
  have ht := fTuple_loc (get_mono hR.top [GO.lst []])
  obtain ⟨w, hw, hix⟩ := fIx_mod (ws := [W.loc G1.length, .tup (ms.map W.loc), .non, .int 5, .str "00", .loc (G1.length + 1), .loc (G1.length + 2)]) (z := c / 16) (m := 7) (by decide) rfl (G1 ++ [.lst [], .dK [], .lst [.int 5]])
  have hix' : fIx (.tmp [W.loc G1.length, .tup (ms.map W.loc), .non, .int 5, .str "00", .loc (G1.length + 1), .loc (G1.length + 2)]) (.val (.int (c / 16 % 7))) (G1 ++ [.lst [], .dK [], .lst [.int 5]]) = .ok (.val w) (G1 ++ [.lst [], .dK [], .lst [.int 5]]) := hix
  refine ⟨w, G1 ++ [.lst [], .dK [], .lst [.int 5]], ?_, hK.two _, ?_⟩
  · rw [sRet_at, mF_at, mIf_at, e12']
    generalize ms.map W.loc = us at *
    simp [ht, fFdiv_int, l16, fMod_int, hix']
  · have hq0 : (G1 ++ [GO.lst [], .dK [], .lst [.int 5]])[G1.length]? = some (.lst []) := by simp
    have hq1 : (G1 ++ [GO.lst [], .dK [], .lst [.int 5]])[G1.length + 1]? = some (.dK []) := by simp
    have hq2 : (G1 ++ [GO.lst [], .dK [], .lst [.int 5]])[G1.length + 2]? = some (.lst [.int 5]) := by simp
    have hQ : RowsAt (G1 ++ [GO.lst [], .dK [], .lst [.int 5]]) F ms (pic.map iW) := hR.mono _
    clear hix hix'
    simp at hw
    rcases hw with rfl | rfl | rfl | rfl | rfl | rfl | rfl
    · exact thing_list hq0 (by simp) fun r hr => by cases hr
    · refine thing_data (d := .tuple (pic.map fun r => .list (r.map PyData.int))) rfl rfl rfl fun G' kk => ?_
      have := mapO_rows 6 (hQ.keep kk).row
      show (mapO (toD 8 G') (ms.map W.loc)).map PyData.tuple = _
      rw [this]
      rfl
    · exact thing_data (d := .none) rfl rfl rfl fun _ _ => rfl
    · exact thing_data (d := .int 5) rfl rfl rfl fun _ _ => rfl
    · exact thing_data (d := .str "00") rfl rfl rfl fun _ _ => toD_str (by decide +kernel)
    · exact thing_dict hq1
    · refine thing_list hq2 (by simp) fun r hr => ?_
      have : r = .int 5 := by simpa using hr
      rw [this]
      exact ⟨okR_flat rfl rfl rfl, rfl⟩
end Lk01
set_option Elab.async false
set_option linter.all false
set_option maxRecDepth 100000
set_option maxHeartbeats 4000000
namespace Lk01
open PySem PySem.Spec PyProof.Rows L2 Sy
/-! refusals, sizes, blank pictures -/
theorem size_bad {G : GH} {w : W} (h : m_is_picture [w] G = .ok (.bl false) G) : m_size_of [w] G = .ex 1 [] G := by
  refine mDef_ex [some w] ?_ (τ1 := [some w])
  unfold b_size_of
  have := need_picture_bad h
  exact seq_ex (by simp [this])
theorem size_good {G : GH} {n : Nat} {ms : List Nat} {pic : List (List Int)} {wide : Nat} (h : RowsAt G n ms (pic.map iW)) (g : Good pic wide) : m_size_of [.loc n] G = .ok (.tup [.int wide, .int pic.length]) G := by
  refine mDef_ok [some (.loc n)] ?_
  unfold b_size_of
  have hn := need_picture_good h g
  obtain ⟨r0, e0, f0⟩ := g.first
  obtain ⟨m0, em0, hm0⟩ := row_get h e0
  have d1 := fLen_loc h.top
  rw [List.length_map, h.len, List.length_map] at d1
  have d2 := fIx_loc0 h.top (by rw [List.getElem?_map, em0]; rfl : (ms.map W.loc)[0]? = some (.loc m0))
  have d3 := fLen_loc hm0
  rw [List.length_map, f0] at d3
  rw [seq_nx (τ1 := [some (.loc n)]) (G1 := G) (by simp [hn])]
  simp [d1, d2, d3]
theorem isE1 (a : Addr) (k : W) (b : Bool) (G : GH) (h : (ckW k).bind (isub it 1) = some b) : fIsE it 1 a [.val (.exn 1 a), .val k] G = .ok (.val (.bl b)) G := fIsE_ok h
theorem isE2 (a : Addr) (k : W) (b : Bool) (G : GH) (h : (ckW k).bind (isub it 2) = some b) : fIsE it 2 a [.val (.exn 2 a), .val k] G = .ok (.val (.bl b)) G := fIsE_ok h
theorem isE3 (a : Addr) (k : W) (b : Bool) (G : GH) (h : (ckW k).bind (isub it 3) = some b) : fIsE it 3 a [.val (.exn 3 a), .val k] G = .ok (.val (.bl b)) G := fIsE_ok h
theorem refused_eq {G : GH} {w : W} (h : m_is_picture [w] G = .ok (.bl false) G) : m_law_refused [w] G = .ok (.bl true) G := by
  have n1 := need_picture_bad h
  have n2 := size_bad h
  refine mDef_ok [some w, none, none, none] ?_
  unfold b_law_refused
  rw [seq_nx (τ1 := [some w, some (.int 0), none, none]) (G1 := G) (by simp)]
  have i1 : fInt [.val (.bl true)] G = .ok (.val (.int 1)) G := rfl
  have tr : ∀ (i k : Nat), k < 2 → (sTry xt 0 3 (sIf (mB (mBin fEq (mVar 2) (mC (.int 0)))) (sDrop (mCall m_need_picture [] (mCons (mVar 0) mNil))) (sDrop (mCall m_size_of [] (mCons (mVar 0) mNil)))) (fun c a => (sSet 1 (mBin fAdd (mVar 1) (mBi fInt (mConsT (mAndV (mBi (fIsE it c a) (mConsT (mVar 3) (mConsT (mC (.cls 1)) mNilT))) (mBi (fIsE it c a) (mConsT (mVar 3) (mConsT (mC (.ty "ValueError")) mNilT)))) mNilT))))))
      [some w, some (.int i), some (.int k), none] G = .nx [some w, some (.int (i + 1 : Int)), some (.int k), none] G := fun i k hk => by
    refine try_ex (c := 1) (τ1 := [some w, some (.int i), some (.int k), none]) (G1 := G) ?_ rfl fun a => ?_
    · have : k = 0 ∨ k = 1 := by omega
      rcases this with rfl | rfl
      · simp [n1]
      · simp [n2]
    · have q1 := isE1 a (.cls 1) true G rfl
      have q2 := isE1 a (.ty "ValueError") true G rfl
      show (sSet 1 _ [some w, some (.int i), some (.int k), some (.exn 1 a)] G).unS 3 = _
      simp [q1, q2, i1, RS.unS]
  have hfor : sFor (miR (mCons (mC (.int 2)) mNil)) (gN 2) (sTry xt 0 3 (sIf (mB (mBin fEq (mVar 2) (mC (.int 0)))) (sDrop (mCall m_need_picture [] (mCons (mVar 0) mNil))) (sDrop (mCall m_size_of [] (mCons (mVar 0) mNil)))) (fun c a => (sSet 1 (mBin fAdd (mVar 1) (mBi fInt (mConsT (mAndV (mBi (fIsE it c a) (mConsT (mVar 3) (mConsT (mC (.cls 1)) mNilT))) (mBi (fIsE it c a) (mConsT (mVar 3) (mConsT (mC (.ty "ValueError")) mNilT)))) mNilT))))))
      [some w, some (.int 0), none, none] G = .nx [some w, some (.int 2), some (.int 1), none] G := by
    have hir : iterR [.int 2] G = .ok ([.int 0, .int 1], []) G := iterR_nat 2 (by decide) G
    have hmi : miR (mCons (mC (.int 2)) mNil) [some w, some (.int 0), none, none] G = .ok ([.int 0, .int 1], []) G := by simp [miR_at, hir]
    rw [sFor_at, hmi, R.toS_ok]
    dsimp only
    rw [forL_nx still_nil (τ1 := [some w, some (.int (0 : Nat)), some (.int (0 : Nat)), none]) rfl (tr 0 0 (by decide))]
    rw [forL_nx still_nil (τ1 := [some w, some (.int (1 : Nat)), some (.int (1 : Nat)), none]) rfl (tr 1 1 (by decide))]
    rw [forL_end still_nil]
    rfl
  rw [seq_nx hfor]
  simp
theorem repW_tmp {G : GH} {ws : List W} {k : Nat} (hk : ws.length * k ≤ 16777216) (hk2 : k ≤ 1000) : fMul (.tmp ws) (.val (.int k)) G = .ok (.tmp (repW ws k)) G := by
  unfold fMul
  have i1 : (-(2 ^ 63) : Int) ≤ k := by
    have : (-(2 ^ 63) : Int) ≤ 0 := by decide
    omega
  have i2 : (k : Int) < 2 ^ 63 := by
    have : (1000 : Int) < 2 ^ 63 := by decide
    omega
  simp only [wrl_tmp, decide_eq_true i1, decide_eq_true i2, Int.toNat_natCast, decide_eq_true hk, Bool.and_self, if_true]
theorem repW_one (w : W) (k : Nat) : repW [w] k = List.replicate k w := by
  unfold repW
  induction k with
  | zero => rfl
  | succ n ih => rw [List.replicate_succ, List.flatten_cons, ih]; rfl
theorem among_some {lo hi : Int} {w : W} (h : amongW lo hi w = true) : ∃ i : Int, w = .int i ∧ lo ≤ i ∧ i ≤ hi := by
  cases w with
  | int i =>
    unfold amongW at h
    simp at h
    exact ⟨i, rfl, h⟩
  | _ => cases h
theorem need_sides_eq {G : GH} {s0 s1 : W} (h0 : okW G s0) (h1 : okW G s1) : m_need_sides [s0, s1] G = if (amongW 1 24 s0 && amongW 1 24 s1) = true then .ok .non G else .ex 3 [] G := by
  have e0 := among_eq h0 1 24
  have e1 := among_eq h1 1 24
  cases c0 : amongW 1 24 s0 with
  | false =>
    rw [c0] at e0
    refine mDef_ex [some s0, some s1] ?_ (τ1 := [some s0, some s1])
    unfold b_need_sides
    rw [if_yes (G1 := G) (by simp [e0])]
    rfl
  | true =>
    rw [c0] at e0
    cases c1 : amongW 1 24 s1 with
    | false =>
      rw [c1] at e1
      refine mDef_ex [some s0, some s1] ?_ (τ1 := [some s0, some s1])
      unfold b_need_sides
      rw [if_yes (G1 := G) (by simp [e0, e1])]
      rfl
    | true =>
      rw [c1] at e1
      refine mDef_nx [some s0, some s1] ?_ (τ1 := [some s0, some s1])
      unfold b_need_sides
      rw [if_no (G1 := G) (by simp [e0, e1])]
theorem need_cell_eq {G : GH} {u : W} (h0 : okW G u) : m_need_cell [u] G = if cellW u = true then .ok .non G else .ex 2 [] G := by
  have e0 := is_cell_eq h0
  cases c0 : cellW u with
  | false =>
    rw [c0] at e0
    refine mDef_ex [some u] ?_ (τ1 := [some u])
    unfold b_need_cell
    rw [if_yes (G1 := G) (by simp [e0])]
    rfl
  | true =>
    rw [c0] at e0
    refine mDef_nx [some u] ?_ (τ1 := [some u])
    unfold b_need_cell
    rw [if_no (G1 := G) (by simp [e0])]
/-- a picture of one cell alone -/
abbrev plainP (wide high : Nat) (c : Int) : List (List Int) := List.replicate high (List.replicate wide c)
theorem plainP_good {wide high : Nat} {c : Int} (w0 : 0 < wide) (w1 : wide ≤ 24) (h0 : 0 < high) (h1 : high ≤ 24) (c0 : 0 ≤ c) (c1 : c ≤ 15) : Good (plainP wide high c) wide :=
  ⟨by simpa using h0, by simpa using h1, w0, w1, fun r hr => by rw [(List.mem_replicate.mp hr).2, List.length_replicate], fun r hr v hv => by
    rw [(List.mem_replicate.mp hr).2] at hv
    rw [(List.mem_replicate.mp hv).2]
    exact ⟨c0, c1⟩⟩
theorem rows_plain {src : Src} {g : MG} {e : M T} {τ : Sl} {G : GH} {ws : List W} {wide high : Nat} {c : Int} (hl : ws.length = high) (hs : ∀ xs, still src (G ++ xs) = true)
    (h : ∀ w ∈ ws, ∀ xs, ∃ τ1, g w τ = some τ1 ∧ e τ1 (G ++ xs) = .ok (.tmp (List.replicate wide (.int c))) (G ++ xs)) :
    ∃ G2, compF src g mYes e τ ws G = .ok (locs G.length high) G2 ∧ G2.length = G.length + high ∧ G2 ++ [.lst (locs G.length high)] = laidR G ((plainP wide high c).map iW) := by
  refine ⟨G ++ List.replicate high (GO.lst (List.replicate wide (W.int c))), ?_, ?_, ?_⟩
  · rw [compF_alloc (fun _ => List.replicate wide (W.int c)) hs fun w hw xs => by
      obtain ⟨τ1, a, b⟩ := h w hw xs
      exact ⟨τ1, a, rfl, b⟩, hl, List.map_const', hl]
  · simp
  · unfold laidR plainP
    rw [List.map_replicate, List.map_replicate, List.length_replicate]
    unfold iW
    rw [List.map_replicate, List.append_assoc]
theorem blank_eq {wide high : Nat} {c : Int} (w0 : 0 < wide) (w1 : wide ≤ 24) (h0 : 0 < high) (h1 : high ≤ 24) (c0 : 0 ≤ c) (c1 : c ≤ 15) (G : GH) :
    m_blank_picture [.int wide, .int high, .int c] G = .ok (.loc (G.length + high)) (laidR G ((plainP wide high c).map iW)) := by
  refine mDef_ok [some (.int wide), some (.int high), some (.int c), none] ?_
  unfold b_blank_picture
  have n1 := need_sides_eq (G := G) (s0 := .int wide) (s1 := .int high) rfl rfl
  have n2 := need_cell_eq (G := G) (u := .int c) rfl
  have a1 : amongW 1 24 (.int wide) = true := by unfold amongW; simp; omega
  have a2 : amongW 1 24 (.int high) = true := by unfold amongW; simp; omega
  have a3 : cellW (.int c) = true := by unfold cellW amongW; simp; omega
  rw [a1, a2, Bool.and_self, if_pos rfl] at n1
  rw [a3, if_pos rfl] at n2
  rw [seq_nx (τ1 := [some (.int wide), some (.int high), some (.int c), none]) (G1 := G) (by simp [n1])]
  rw [seq_nx (τ1 := [some (.int wide), some (.int high), some (.int c), none]) (G1 := G) (by simp [n2])]
  have hir := iterR_nat high (by omega) G
  have hl : (rangeW 0 high).length = high := rangeW_len ..
  obtain ⟨G2, hc, hG2, hG3⟩ := rows_plain (src := []) (g := gN 3) (e := mBin fMul (mLst (mCons (mVar 2) mNil)) (mVar 0)) (τ := [some (.int wide), some (.int high), some (.int c), none]) (G := G) (wide := wide) (c := c) hl (fun _ => still_nil) fun w hw xs => ⟨_, rfl, by
    have := repW_tmp (G := G ++ xs) (ws := [W.int c]) (k := wide) (by simp; omega) (by omega)
    rw [repW_one] at this
    generalize List.replicate wide (W.int c) = Z at *
    simp [this]⟩
  have hl2 : (rangeW 0 high).length ≤ 16777216 := by omega
  have hl3 : (locs G.length high).length ≤ 16777216 := by rw [locs_len]; omega
  rw [← hG3, ← hG2]
  generalize locs G.length high = X at *
  generalize rangeW 0 high = us at *
  simp [mComp_at, miR_at, hir, wipeS, hl2, hc]
end Lk01
set_option Elab.async false
set_option linter.all false
set_option maxRecDepth 100000
set_option maxHeartbeats 4000000
namespace Lk01
open PySem PySem.Spec PyProof.Rows L2 Sy
/-! blanks as the law asks them -/
theorem law_blank_bad3 {G : GH} {s0 s1 u : W} (h0 : okW G s0) (h1 : okW G s1) (h : (amongW 1 24 s0 && amongW 1 24 s1) = false) : m_law_blank [s0, s1, u] G = .ok (.tup [.str "refused", .bl true, .bl false, .bl true]) G := by
  have n1 := need_sides_eq h0 h1
  rw [h, if_neg Bool.false_ne_true] at n1
  have hb : m_blank_picture [s0, s1, u] G = .ex 3 [] G := by
    refine mDef_ex [some s0, some s1, some u, none] ?_ (τ1 := [some s0, some s1, some u, none])
    unfold b_blank_picture
    exact seq_ex (by simp [n1])
  refine mDef_ok [some s0, some s1, some u, none, none] ?_
  unfold b_law_blank
  refine seq_rt (try_ex (c := 3) (τ1 := [some s0, some s1, some u, none, none]) (G1 := G) (by simp [hb]) rfl fun a => ?_)
  have q1 := isE3 a (.cls 3) true G rfl
  have q2 := isE3 a (.cls 2) false G rfl
  have q3 := isE3 a (.ty "ValueError") true G rfl
  show (sRet _ [some s0, some s1, some u, none, some (.exn 3 a)] G).unS 4 = _
  simp [q1, q2, q3, RS.unS]
theorem law_blank_bad2 {G : GH} {s0 s1 u : W} (h0 : okW G s0) (h1 : okW G s1) (h2 : okW G u) (h : (amongW 1 24 s0 && amongW 1 24 s1) = true) (hc : cellW u = false) : m_law_blank [s0, s1, u] G = .ok (.tup [.str "refused", .bl false, .bl true, .bl true]) G := by
  have n1 := need_sides_eq h0 h1
  rw [h, if_pos rfl] at n1
  have n2 := need_cell_eq h2
  rw [hc, if_neg Bool.false_ne_true] at n2
  have hb : m_blank_picture [s0, s1, u] G = .ex 2 [] G := by
    refine mDef_ex [some s0, some s1, some u, none] ?_ (τ1 := [some s0, some s1, some u, none])
    unfold b_blank_picture
    rw [seq_nx (τ1 := [some s0, some s1, some u, none]) (G1 := G) (by simp [n1])]
    exact seq_ex (by simp [n2])
  refine mDef_ok [some s0, some s1, some u, none, none] ?_
  unfold b_law_blank
  refine seq_rt (try_ex (c := 2) (τ1 := [some s0, some s1, some u, none, none]) (G1 := G) (by simp [hb]) rfl fun a => ?_)
  have q1 := isE2 a (.cls 3) false G rfl
  have q2 := isE2 a (.cls 2) true G rfl
  have q3 := isE2 a (.ty "ValueError") true G rfl
  show (sRet _ [some s0, some s1, some u, none, some (.exn 2 a)] G).unS 4 = _
  simp [q1, q2, q3, RS.unS]
theorem law_blank_good {wide high : Nat} {c : Int} (w0 : 0 < wide) (w1 : wide ≤ 24) (h0 : 0 < high) (h1 : high ≤ 24) (c0 : 0 ≤ c) (c1 : c ≤ 15) (G : GH) :
    m_law_blank [.int wide, .int high, .int c] G = .ok (.loc (G.length + high)) (laidR G ((plainP wide high c).map iW)) := by
  have hb := blank_eq w0 w1 h0 h1 c0 c1 G
  refine mDef_ok [some (.int wide), some (.int high), some (.int c), none, none] ?_
  unfold b_law_blank
  generalize laidR G ((plainP wide high c).map iW) = G2 at *
  rw [seq_nx (try_nx (τ1 := [some (.int wide), some (.int high), some (.int c), some (.loc (G.length + high)), none]) (G1 := G2) (by simp [hb]))]
  simp
/-- a side, drawn -/
theorem side_drawn (z : Int) : ∃ s, (∀ G, okW G s) ∧ ∀ (a0 a1 a2 a4 a5 a6 a7 a8 a9 a10 a11 : Option W) (G : GH), ((mIf (mB (mBin fLt (mVar 3) (mC (.int 260)))) (mBin fAdd (mC (.int 1)) (mBin fMod (mVar 3) (mC (.int 24)))) (mBin fIx (mLst (mCons (mC (.int 0)) (mCons (mC (.int 25)) (mCons (mUn fNeg (mC (.int 1))) (mCons (mC (.bl true)) (mCons (mC .non) (mCons (mC (.str "3")) (mCons (mBin fPow (mC (.int 10)) (mC (.int 20))) mNil)))))))) (mBin fMod (mVar 3) (mC (.int 7)))))
    [a0, a1, a2, some (.int z), a4, a5, a6, a7, a8, a9, a10, a11] G).bind force = .ok s G := by
  by_cases h : z < 260
  · exact ⟨.int (1 + z % 24), fun G => rfl, fun _ _ _ _ _ _ _ _ _ _ _ G => by simp [h, fMod_int]⟩
  · have hp20 := fPow_20
    obtain ⟨n, hn, hn7⟩ := mod_nat z (m := 7) (by decide)
    have hn' : z % 7 = n := hn
    have : ∃ s, [W.int 0, .int 25, .int (-1), .bl true, .non, .str "3", .int (10 ^ 20)][n]? = some s ∧ ∀ G, okW G s := by
      have : n = 0 ∨ n = 1 ∨ n = 2 ∨ n = 3 ∨ n = 4 ∨ n = 5 ∨ n = 6 := by omega
      rcases this with rfl | rfl | rfl | rfl | rfl | rfl | rfl <;> exact ⟨_, rfl, fun _ => rfl⟩
    obtain ⟨s, hs, ho⟩ := this
    refine ⟨s, ho, fun _ _ _ _ _ _ _ _ _ _ _ G => ?_⟩
    have hix := fIx_tmp (G := G) hs
    generalize (10 ^ 20 : Int) = tt at *
    simp [h, fMod_int, hp20, hn', hix]
theorem look_side {s : W} {G : GH} (h : okW G s) (τ : Sl) (hτ : τ[10]? = some (some s)) : (mAndV (mBi fIsi (mConsT (mVar 10) (mConsT (mC (.ty "int")) mNilT))) (mAndV (mNotV (mBi fIsi (mConsT (mVar 10) (mConsT (mC (.ty "bool")) mNilT)))) (mChain fLt fLt (mC (.int 0)) (mVar 10) (mC (.int 25))))) τ G = .ok (.val (.bl (amongW 1 24 s))) G := by
  cases s with
  | int i =>
    by_cases h1 : 0 < i
    · have h1' : 1 ≤ i := by omega
      by_cases h2 : i < 25
      · have h3 : i ≤ 24 := by omega
        simp [hτ, amongW, h1, h1', h2, h3]
      · have h3 : ¬ i ≤ 24 := by omega
        simp [hτ, amongW, h1, h1', h2, h3]
    · have h1' : ¬ 1 ≤ i := by omega
      simp [hτ, amongW, h1, h1']
  | bl b => simp [hτ, amongW]
  | non => simp [hτ, amongW]
  | str x => simp [hτ, amongW]
  | tup ws => simp [hτ, amongW]
  | loc n =>
    have e : ∃ a, tyOf G (.val (.loc n)) = some a ∧ subTy a "int" = some false := by
      unfold okW tyOf at h
      unfold tyOf
      dsimp only at h ⊢
      cases e : G[n]? with
      | none => rw [e] at h; cases h
      | some o =>
        rw [e] at h
        cases o with
        | lst ws => exact ⟨_, rfl, by decide⟩
        | dK ws => exact ⟨_, rfl, by decide⟩
        | dT ws => exact ⟨_, rfl, by decide⟩
        | ins c fs => cases h
    obtain ⟨a, e1, e2⟩ := e
    have := isi_of e1 e2
    simp [hτ, amongW, this]
  | frl ws =>
    have := isi_of (G := G) (t := .val (.frl ws)) (a := "list") (b := "int") (r := false) rfl (by decide)
    simp [hτ, amongW, this]
  | ty n => cases h
  | cls n => cases h
  | exn n a => cases h
theorem eq_looks (b0 b1 : Bool) (G : GH) : fEq (.tmp [.bl b0, .bl b1]) (.tmp [.bl true, .bl true]) G = .ok (.val (.bl (b0 && b1))) G := by
  have h1 : toDT G (.tmp [.bl b0, .bl b1]) = some (.list [.bool b0, .bool b1]) := rfl
  have h2 : toDT G (.tmp [.bl true, .bl true]) = some (.list [.bool true, .bool true]) := rfl
  rw [fEq_data h1 h2]
  cases b0 <;> cases b1 <;> simp [PyData.eqv, PyData.eqvAll]
theorem eq_told {x : List W} {ds : List PyData} (h : ∀ G, mapO (toD 8 G) x = some ds) (G : GH) : fEq (.val (.tup x)) (.val (.tup x)) G = .ok (.val (.bl true)) G :=
  eq_self_data (d := .tuple ds) (by rw [toD_tup, h]; rfl)
end Lk01
set_option Elab.async false
set_option linter.all false
set_option maxRecDepth 100000
set_option maxHeartbeats 4000000
namespace Lk01
open PySem PySem.Spec PyProof.Rows L2 Sy
/-! blanks, told right -/
theorem laidR_len (G : GH) (rows : List (List W)) : (laidR G rows).length = G.length + rows.length + 1 := by
  unfold laidR
  simp
  omega
theorem places_mem {n k m : Nat} (h : m ∈ places n k) : n ≤ m ∧ m < n + k := by
  obtain ⟨i, hi, rfl⟩ := List.mem_map.mp h
  have := List.mem_range.mp hi
  omega
theorem like_laid {G G' : GH} {pic : List (List Int)} (hp : pic.length ≤ 1000) (hr : ∀ r ∈ pic, r.length ≤ 1000) (k : Keeps (laidR G (pic.map iW)) G') :
    m_law_is_like [.loc (G.length + pic.length), .loc (G'.length + pic.length)] (laidR G' (pic.map iW)) = .ok (.bl true) (laidR G' (pic.map iW)) := by
  have hF := (laidR_rows G (pic.map iW)).keep (k.trans (Keeps.app G' _) : Keeps (laidR G (pic.map iW)) (laidR G' (pic.map iW)))
  have hD := laidR_rows G' (pic.map iW)
  have hl := k.len
  rw [laidR_len, List.length_map] at hl
  rw [List.length_map] at hF hD
  refine is_like_eq hF hD (places_nodup _ _) (fun h => ?_) (fun h => ?_) (fun j h1 h2 => ?_) hp hr
  · have := places_mem h; omega
  · have := places_mem h; omega
  · have := places_mem h1
    have := places_mem h2
    omega
theorem like_self {G : GH} {x : List W} {ds : List PyData} (h : ∀ G, mapO (toD 8 G) x = some ds) : fEq (.val (.tup x)) (.val (.tup x)) G = .ok (.val (.bl true)) G := eq_told h G
theorem told3 (b0 b1 b2 : Bool) (G : GH) : mapO (toD 8 G) [.str "refused", .bl b0, .bl b1, .bl b2] = some [.str "refused", .bool b0, .bool b1, .bool b2] := by
  rw [mapO_cons, toD_str refused_ok]
  simp
theorem hue_drawn (o : Int) (a0 a2 a3 a4 a5 a6 a7 a8 a9 a10 a11 : Option W) (G : GH) : ∃ u xs, (mIf (mB (mBin fGt (mBin fMod (mVar 1) (mC (.int 3))) (mC (.int 0)))) (mBin fMod (mBin fFdiv (mVar 1) (mC (.int 3))) (mC (.int 16))) (mCall m_law_odd [] (mCons (mBin fFdiv (mVar 1) (mC (.int 3))) mNil)))
    [a0, some (.int o), a2, a3, a4, a5, a6, a7, a8, a9, a10, a11] G = .ok (.val u) (G ++ xs) ∧ okW (G ++ xs) u := by
  have l3 : Nat.log2 3 < 9000 := by decide
  by_cases h : 0 < o % 3
  · refine ⟨.int (o / 3 % 16), [], ?_, rfl⟩
    simp [fMod_int, h, fFdiv_int, l3]
  · obtain ⟨u, hu, hu2, _⟩ := law_odd_eq (o / 3) G
    exact ⟨u, [.lst [.int 0]], by simp [fMod_int, h, fFdiv_int, l3, hu], hu2⟩
theorem blanks_right (c o : Int) (G : GH) : ∃ G', m_law_blanks_right [.int c, .int o] G = .ok (.bl true) G' := by
  suffices hh : ∃ G', b_law_blanks_right [some (.int c), some (.int o), none, none, none, none, none, none, none, none, none, none] G = .rt (.bl true) G' by
    obtain ⟨G', h⟩ := hh
    exact ⟨G', mDef_ok _ h⟩
  have l1 : Nat.log2 1 < 9000 := by decide
  have l300 : Nat.log2 300 < 9000 := by decide
  unfold b_law_blanks_right
  rw [seq_nx (τ1 := [some (.int c), some (.int o), none, none, none, none, none, none, some (.loc G.length), none, none, none]) (G1 := G ++ [.lst []]) (by simp)]
  obtain ⟨s0, ok0, hs0⟩ := side_drawn (c / 1 % 300)
  obtain ⟨s1, ok1, hs1⟩ := side_drawn (c / 300 % 300)
  -- the sides
  have hfor : sFor (miR (mCons (mC (.int 2)) mNil)) (gN 7) (sSeq (sSet 3 (mBin fMod (mBin fFdiv (mVar 0) (mBin fIx (mLst (mCons (mC (.int 1)) (mCons (mC (.int 300)) mNil))) (mVar 7))) (mC (.int 300)))) (sDrop (mMtF isLst fApp (mVar 8) (mCons (mIf (mB (mBin fLt (mVar 3) (mC (.int 260)))) (mBin fAdd (mC (.int 1)) (mBin fMod (mVar 3) (mC (.int 24)))) (mBin fIx (mLst (mCons (mC (.int 0)) (mCons (mC (.int 25)) (mCons (mUn fNeg (mC (.int 1))) (mCons (mC (.bl true)) (mCons (mC .non) (mCons (mC (.str "3")) (mCons (mBin fPow (mC (.int 10)) (mC (.int 20))) mNil)))))))) (mBin fMod (mVar 3) (mC (.int 7))))) mNil))))
      [some (.int c), some (.int o), none, none, none, none, none, none, some (.loc G.length), none, none, none] (G ++ [.lst []]) = .nx [some (.int c), some (.int o), none, some (.int (c / 300 % 300)), none, none, none, some (.int 1), some (.loc G.length), none, none, none] (G ++ [.lst [s0, s1]]) := by
    have hir : iterR [.int 2] (G ++ [.lst []]) = .ok ([.int 0, .int 1], []) (G ++ [.lst []]) := iterR_nat 2 (by decide) _
    have hmi : miR (mCons (mC (.int 2)) mNil) [some (.int c), some (.int o), none, none, none, none, none, none, some (.loc G.length), none, none, none] (G ++ [.lst []]) = .ok ([.int 0, .int 1], []) (G ++ [.lst []]) := by simp [miR_at, hir]
    have hx0 : ∀ G, fIx (.tmp [.int 1, .int 300]) (.val (.int 0)) G = .ok (.val (.int 1)) G := fun G => fIx_tmp (k := 0) rfl
    have hx1 : ∀ G, fIx (.tmp [.int 1, .int 300]) (.val (.int 1)) G = .ok (.val (.int 300)) G := fun G => fIx_tmp (k := 1) rfl
    have fd0 : ∀ G, fFdiv (.val (.int c)) (.val (.int 1)) G = .ok (.val (.int (c / 1))) G := fun G => fFdiv_int (by decide) l1
    have p0 := last_get G (.lst [])
    have p1 := last_get G (.lst [s0])
    generalize hz0 : c / 1 % 300 = z0 at *
    generalize hz1 : c / 300 % 300 = z1 at *
    have m0 : ∀ G, fMod (.val (.int (c / 1))) (.val (.int 300)) G = .ok (.val (.int z0)) G := fun G => by rw [fMod_int (by decide), hz0]
    have m1 : ∀ G, fMod (.val (.int (c / 300))) (.val (.int 300)) G = .ok (.val (.int z1)) G := fun G => by rw [fMod_int (by decide), hz1]
    have fd1 : ∀ G, fFdiv (.val (.int c)) (.val (.int 300)) G = .ok (.val (.int (c / 300))) G := fun G => fFdiv_int (by decide) l300
    clear hz0 hz1
    generalize c / 1 = c0 at *
    generalize c / 300 = c1 at *
    rw [sFor_at, hmi, R.toS_ok]
    dsimp only
    refine (forL_nx still_nil (τ1 := [some (.int c), some (.int o), none, none, none, none, none, some (.int 0), some (.loc G.length), none, none, none]) (τ2 := [some (.int c), some (.int o), none, some (.int z0), none, none, none, some (.int 0), some (.loc G.length), none, none, none]) (G2 := G ++ [.lst [s0]]) rfl ?_).trans ?_
    · rw [seq_nx (τ1 := [some (.int c), some (.int o), none, some (.int z0), none, none, none, some (.int 0), some (.loc G.length), none, none, none]) (G1 := G ++ [.lst []]) (by simp [hx0, fd0, m0])]
      have h := app_one (i := 8) (τ := [some (.int c), some (.int o), none, some (.int z0), none, none, none, some (.int 0), some (.loc G.length), none, none, none]) rfl p0 (hs0 ..) p0 (by simp)
      rw [set_top0] at h
      exact h
    refine (forL_nx still_nil (τ1 := [some (.int c), some (.int o), none, some (.int z0), none, none, none, some (.int 1), some (.loc G.length), none, none, none]) (τ2 := [some (.int c), some (.int o), none, some (.int z1), none, none, none, some (.int 1), some (.loc G.length), none, none, none]) (G2 := G ++ [.lst [s0, s1]]) rfl ?_).trans (forL_end still_nil)
    rw [seq_nx (τ1 := [some (.int c), some (.int o), none, some (.int z1), none, none, none, some (.int 1), some (.loc G.length), none, none, none]) (G1 := G ++ [.lst [s0]]) (by simp [hx1, fd1, m1])]
    have h := app_one (i := 8) (τ := [some (.int c), some (.int o), none, some (.int z1), none, none, none, some (.int 1), some (.loc G.length), none, none, none]) rfl p1 (hs1 ..) p1 (by simp)
    rw [set_top0] at h
    exact h
  rw [seq_nx hfor]
  clear hfor hs0 hs1
  generalize c / 300 % 300 = z1
  obtain ⟨u, xs, hu, oku⟩ := hue_drawn o (some (.int c)) none (some (.int z1)) none none none (some (.int 1)) (some (.loc G.length)) none none none (G ++ [.lst [s0, s1]])
  have hT := get_mono (last_get G (.lst [s0, s1])) xs
  rw [seq_nx (τ1 := [some (.int c), some (.int o), none, some (.int z1), none, none, some u, some (.int 1), some (.loc G.length), none, none, none]) (G1 := G ++ [.lst [s0, s1]] ++ xs) (by
    rw [sSet_at, mF_at, hu, R.bind_ok]
    simp)]
  clear hu
  generalize G ++ [GO.lst [s0, s1]] ++ xs = G2 at *
  generalize G.length = L at *
  -- the looks
  have hit := iterA_at hT
  have hc : compF [(L, [s0, s1])] (gN 10) mYes (mAndV (mBi fIsi (mConsT (mVar 10) (mConsT (mC (.ty "int")) mNilT))) (mAndV (mNotV (mBi fIsi (mConsT (mVar 10) (mConsT (mC (.ty "bool")) mNilT)))) (mChain fLt fLt (mC (.int 0)) (mVar 10) (mC (.int 25))))) [some (.int c), some (.int o), none, some (.int z1), none, none, some u, some (.int 1), some (.loc L), none, none, none] [s0, s1] G2 = .ok [.bl (amongW 1 24 s0), .bl (amongW 1 24 s1)] G2 := by
    refine compF_map (fun w => .bl (amongW 1 24 w)) (still_of hT) fun w hw => ⟨_, rfl, rfl, ?_⟩
    have : okW G2 w := by
      simp at hw
      rcases hw with rfl | rfl
      · exact ok0 G2
      · exact ok1 G2
    rw [look_side this _ rfl]
    rfl
  have hel := eq_looks (amongW 1 24 s0) (amongW 1 24 s1) G2
  have x0 := fIx_loc (k := 0) hT (w := s0) rfl
  have x1 := fIx_loc (k := 1) hT (w := s1) rfl
  have x0' : fIx (.val (.loc L)) (.val (.int 0)) G2 = .ok (.val s0) G2 := x0
  have x1' : fIx (.val (.loc L)) (.val (.int 1)) G2 = .ok (.val s1) G2 := x1
  have hmc : mComp (miA (mVar 8)) (gN 10) mYes (mAndV (mBi fIsi (mConsT (mVar 10) (mConsT (mC (.ty "int")) mNilT))) (mAndV (mNotV (mBi fIsi (mConsT (mVar 10) (mConsT (mC (.ty "bool")) mNilT)))) (mChain fLt fLt (mC (.int 0)) (mVar 10) (mC (.int 25))))) [10] [some (.int c), some (.int o), none, some (.int z1), none, none, some u, some (.int 1), some (.loc L), none, none, none] G2 = .ok (.tmp [.bl (amongW 1 24 s0), .bl (amongW 1 24 s1)]) G2 := by
    have hmi : miA (mVar 8) [some (.int c), some (.int o), none, some (.int z1), none, none, some u, some (.int 1), some (.loc L), none, none, none] G2 = .ok ([s0, s1], [(L, [s0, s1])]) G2 := by simp [miA_at, hit]
    rw [mComp_at, hmi, R.bind_ok]
    dsimp only
    rw [if_pos (by simp)]
    show (compF _ _ _ _ [some (.int c), some (.int o), none, some (.int z1), none, none, some u, some (.int 1), some (.loc L), none, none, none] _ _).bind _ = _
    rw [hc]
    rfl
  rw [seq_nx (τ1 := [some (.int c), some (.int o), none, some (.int z1), none, some (.bl (amongW 1 24 s0 && amongW 1 24 s1)), some u, some (.int 1), some (.loc L), none, none, none]) (G1 := G2) (by
    rw [sSet_at, mF_at, mBin_at, hmc, R.bind_ok]
    generalize (amongW 1 24 s0 && amongW 1 24 s1) = bb at *
    simp [hel])]
  clear hmc hel hc
  cases hb : (amongW 1 24 s0 && amongW 1 24 s1) with
  | false =>
    have hbl := law_blank_bad3 (u := u) (ok0 G2) (ok1 G2) hb
    have e := like_self (fun G => told3 true false true G) (G := G2)
    rw [seq_nx (τ1 := [some (.int c), some (.int o), none, some (.int z1), some (.tup [.str "refused", .bl true, .bl false, .bl true]), some (.bl false), some u, some (.int 1), some (.loc L), none, none, none]) (G1 := G2) (by simp [x0', x1', hbl])]
    rw [seq_yes (G1 := G2) (by simp)]
    exact ⟨G2, seq_rt (by simp [e])⟩
  | true =>
    have hlc := law_is_cell_eq oku
    cases hcu : cellW u with
    | false =>
      rw [hcu] at hlc
      have hbl := law_blank_bad2 (ok0 G2) (ok1 G2) oku hb hcu
      have e := like_self (fun G => told3 false true true G) (G := G2)
      rw [seq_nx (τ1 := [some (.int c), some (.int o), none, some (.int z1), some (.tup [.str "refused", .bl false, .bl true, .bl true]), some (.bl true), some u, some (.int 1), some (.loc L), none, none, none]) (G1 := G2) (by simp [x0', x1', hbl])]
      rw [seq_no (G1 := G2) (by simp)]
      rw [seq_yes (G1 := G2) (by simp [hlc])]
      exact ⟨G2, seq_rt (by simp [e])⟩
    | true =>
      rw [hcu] at hlc
      obtain ⟨b0, b1⟩ := Bool.and_eq_true_iff.mp hb
      obtain ⟨i0, rfl, i01, i02⟩ := among_some b0
      obtain ⟨i1, rfl, i11, i12⟩ := among_some b1
      obtain ⟨v, rfl, v0, v1⟩ := among_some hcu
      obtain ⟨wide, rfl⟩ := nat_of (show 0 ≤ i0 by omega)
      obtain ⟨high, rfl⟩ := nat_of (show 0 ≤ i1 by omega)
      have w0 : 0 < wide := by omega
      have w1 : wide ≤ 24 := by omega
      have h0 : 0 < high := by omega
      have h1 : high ≤ 24 := by omega
      have hbl := law_blank_good w0 w1 h0 h1 v0 v1 G2
      have gp := plainP_good w0 w1 h0 h1 v0 v1
      have gp0 := plainP_good (c := 0) w0 w1 h0 h1 (by decide) (by decide)
      have hpl : (plainP wide high v).length = high := by simp
      have hpl0 : (plainP wide high 0).length = high := by simp
      rw [seq_nx (τ1 := [some (.int c), some (.int o), none, some (.int z1), some (.loc (G2.length + high)), some (.bl true), some (.int v), some (.int 1), some (.loc L), none, none, none]) (G1 := laidR G2 ((plainP wide high v).map iW)) (by
        generalize laidR G2 ((plainP wide high v).map iW) = G3 at *
        simp [x0', x1', hbl])]
      have hk3 : Keeps G2 (laidR G2 ((plainP wide high v).map iW)) := Keeps.app _ _
      have lk := like_laid (G := G2) (pic := plainP wide high v) (by omega) (fun r hr => by rw [gp.row r hr]; omega) (Keeps.refl _)
      rw [hpl] at lk
      generalize laidR G2 ((plainP wide high v).map iW) = G3 at *
      have hlc3 : m_law_is_cell [.int v] G3 = .ok (.bl true) G3 := by rw [law_is_cell_eq (G := G3) rfl, hcu]
      rw [seq_no (G1 := G3) (by simp)]
      rw [seq_no (G1 := G3) (by simp [hlc3])]
      have hT3 := hk3.get hT
      have y0 : fIx (.val (.loc L)) (.val (.int 0)) G3 = .ok (.val (.int wide)) G3 := fIx_loc (k := 0) hT3 rfl
      have y1 : fIx (.val (.loc L)) (.val (.int 1)) G3 = .ok (.val (.int high)) G3 := fIx_loc (k := 1) hT3 rfl
      have hir := iterR_nat high (by omega) G3
      obtain ⟨G4, hc4, hl4, he4⟩ := rows_plain (src := []) (g := gN 9) (e := mBin fMul (mLst (mCons (mVar 6) mNil)) (mBin fIx (mVar 8) (mC (.int 0)))) (τ := [some (.int c), some (.int o), none, some (.int z1), some (.loc (G2.length + high)), some (.bl true), some (.int v), some (.int 1), some (.loc L), none, none, none]) (G := G3) (ws := rangeW 0 high) (wide := wide) (c := v) (rangeW_len ..) (fun _ => still_nil) fun w hw xs => ⟨_, rfl, by
        have m := repW_tmp (G := G3 ++ xs) (ws := [W.int v]) (k := wide) (by simp; omega) (by omega)
        have y : fIx (.val (.loc L)) (.val (.int 0)) (G3 ++ xs) = .ok (.val (.int wide)) (G3 ++ xs) := fIx_loc (k := 0) (get_mono hT3 xs) rfl
        rw [repW_one] at m
        generalize List.replicate wide (W.int v) = Z at *
        simp [m, y]⟩
      have hl2 : (rangeW 0 high).length ≤ 16777216 := by rw [rangeW_len]; omega
      rw [seq_nx (τ1 := [some (.int c), some (.int o), some (.loc (G3.length + high)), some (.int z1), some (.loc (G2.length + high)), some (.bl true), some (.int v), some (.int 1), some (.loc L), none, none, none]) (G1 := laidR G3 ((plainP wide high v).map iW)) (by
        rw [← he4]
        clear he4
        generalize locs G3.length high = X at *
        generalize rangeW 0 high = us at *
        simp [mComp_at, miR_at, y1, hir, wipeS, hl2, hc4, hl4])]
      clear hc4 he4 hl4
      have hk5 : Keeps G3 (laidR G3 ((plainP wide high v).map iW)) := Keeps.app _ _
      have hD := laidR_rows G3 ((plainP wide high v).map iW)
      rw [List.length_map, hpl] at hD
      generalize laidR G3 ((plainP wide high v).map iW) = G5 at *
      rw [seq_no (G1 := G5) (by simp [lk])]
      have hT5 := hk5.get hT3
      have z0 : fIx (.val (.loc L)) (.val (.int 0)) G5 = .ok (.val (.int wide)) G5 := fIx_loc (k := 0) hT5 rfl
      have z1' : fIx (.val (.loc L)) (.val (.int 1)) G5 = .ok (.val (.int high)) G5 := fIx_loc (k := 1) hT5 rfl
      have hb5 := blank_eq (c := 0) w0 w1 h0 h1 (by decide) (by decide) G5
      have hk6 : Keeps G5 (laidR G5 ((plainP wide high 0).map iW)) := Keeps.app _ _
      have lk2 := fun G' => like_laid (G := G5) (G' := G') (pic := plainP wide high 0) (by omega) (fun r hr => by rw [gp0.row r hr]; omega)
      rw [hpl0] at lk2
      have lk2 := lk2 _ (Keeps.refl _)
      generalize laidR G5 ((plainP wide high 0).map iW) = G6 at *
      have hT6 := hk6.get hT5
      have hD6 := hD.keep hk6
      have hitD := iterA_at hD6.top
      have hlD : ((places G3.length high).map W.loc).length = high := by simp [places]
      obtain ⟨G7, hc7, hl7, he7⟩ := rows_plain (src := [(G3.length + high, (places G3.length high).map W.loc)]) (g := gN 11) (e := mBin fMul (mLst (mCons (mC (.int 0)) mNil)) (mBin fIx (mVar 8) (mC (.int 0)))) (τ := [some (.int c), some (.int o), some (.loc (G3.length + high)), some (.int z1), some (.loc (G2.length + high)), some (.bl true), some (.int v), some (.int 1), some (.loc L), none, none, none]) (G := G6) (ws := (places G3.length high).map W.loc) (wide := wide) (c := 0) hlD (fun xs => still_of (get_mono hD6.top xs)) fun w hw xs => ⟨_, rfl, by
        have m := repW_tmp (G := G6 ++ xs) (ws := [W.int 0]) (k := wide) (by simp; omega) (by omega)
        have y : fIx (.val (.loc L)) (.val (.int 0)) (G6 ++ xs) = .ok (.val (.int wide)) (G6 ++ xs) := fIx_loc (k := 0) (get_mono hT6 xs) rfl
        rw [repW_one] at m
        generalize List.replicate wide (W.int 0) = Z at *
        simp [m, y]⟩
      refine ⟨laidR G6 ((plainP wide high 0).map iW), ?_⟩
      rw [← he7] at lk2 ⊢
      rw [← hl7] at lk2
      clear he7
      have hlX : ((places G3.length high).map W.loc).length ≤ 16777216 := by omega
      generalize locs G6.length high = X at *
      generalize (places G3.length high).map W.loc = us at *
      simp [z0, z1', hb5, mComp_at, miA_at, hitD, wipeS, hlX, hc7, lk2]
end Lk01
set_option Elab.async false
set_option linter.all false
set_option maxRecDepth 100000
set_option maxHeartbeats 4000000
namespace Lk01
open PySem PySem.Spec PyProof.Rows L2 Sy
/-! the law -/
theorem Thing.keep {G G' : GH} {w : W} (h : Thing G w) (xs : GH) (e : G' = G ++ xs) : okP G' w ∧ isPicB G' w = isPicB G w := by
  rw [e]
  exact ⟨h.ok.app xs, isPicB_app xs h.ok⟩
theorem drawn_thing (ns : List Int) (c : Int) (hc : ∀ G, m_law_cell_at [scr ns, .int 3] G = .ok (.int c) G) (a1 a2 a3 a4 a5 a6 a7 a9 : Option W) (G : GH) : ∃ w G1, Thing G1 w ∧ ∀ b : MS,
    sSeq (sSet 8 (mCall m_law_picture [] (mCons (mVar 0) (mCons (mC (.int 0)) (mCons (mC (.int 8)) mNil))))) (sSeq (sSet 1 (mCall m_law_cell_at [] (mCons (mVar 0) (mCons (mC (.int 3)) mNil)))) (sSeq (sIf (mB (mBin fGt (mBin fMod (mVar 1) (mC (.int 3))) (mC (.int 0)))) (sSet 8 (mCall m_law_spoilt [] (mCons (mVar 8) (mCons (mBin fFdiv (mVar 1) (mC (.int 3))) mNil)))) sNext) b))
      [some (scr ns), a1, a2, a3, a4, a5, a6, a7, none, a9] G = b [some (scr ns), some (.int c), a2, a3, a4, a5, a6, a7, some w, a9] G1 := by
  obtain ⟨pic, wide, g, hp⟩ := picture_eq ns 0 8 (by decide) (by decide) (by decide)
  have hp := hp G
  have hR := laidR_rows G (pic.map iW)
  rw [List.length_map] at hR
  have l3 : Nat.log2 3 < 9000 := by decide
  generalize laidR G (pic.map iW) = G1 at *
  generalize G.length + pic.length = F at *
  generalize places G.length pic.length = ms at *
  by_cases h : 0 < c % 3
  · obtain ⟨w, G2, h1, h2, h3⟩ := spoilt_thing hR g (c / 3)
    refine ⟨w, G2, h3, fun b => ?_⟩
    rw [seq_nx (τ1 := [some (scr ns), a1, a2, a3, a4, a5, a6, a7, some (.loc F), a9]) (G1 := G1) (by
      generalize scr ns = sn at *
      simp [hp])]
    rw [seq_nx (τ1 := [some (scr ns), some (.int c), a2, a3, a4, a5, a6, a7, some (.loc F), a9]) (G1 := G1) (by
      generalize scr ns = sn at *
      simp [hc])]
    rw [seq_yes (G1 := G1) (by simp [fMod_int, h])]
    rw [seq_nx (τ1 := [some (scr ns), some (.int c), a2, a3, a4, a5, a6, a7, some w, a9]) (G1 := G2) (by simp [fFdiv_int, l3, h1])]
  · refine ⟨.loc F, G1, thing_list hR.top ?_ ?_, fun b => ?_⟩
    · rw [List.length_map, hR.len, List.length_map]
      have := g.h1
      omega
    · intro r hr
      obtain ⟨m, hm, rfl⟩ := List.mem_map.mp hr
      exact okR_row hR g hm
    · rw [seq_nx (τ1 := [some (scr ns), a1, a2, a3, a4, a5, a6, a7, some (.loc F), a9]) (G1 := G1) (by
        generalize scr ns = sn at *
        simp [hp])]
      rw [seq_nx (τ1 := [some (scr ns), some (.int c), a2, a3, a4, a5, a6, a7, some (.loc F), a9]) (G1 := G1) (by
        generalize scr ns = sn at *
        simp [hc])]
      rw [seq_no (G1 := G1) (by simp [fMod_int, h])]
theorem ne_sides (G : GH) (i j : Int) : fNe (.val (.tup [.int i, .int j])) (.val (.tup [.int i, .int j])) G = .ok (.val (.bl false)) G :=
  ne_same (d := .tuple [.int i, .int j]) rfl rfl rfl
theorem ne_bl (b : Bool) (G : GH) : fNe (.val (.bl b)) (.val (.bl b)) G = .ok (.val (.bl false)) G :=
  ne_same (d := .bool b) rfl rfl rfl
/-- the one thing that is kept, and whether it is a picture -/
theorem kept_eq {G : GH} {w : W} (h : Thing G w) : ∃ kept G2, Keeps G G2 ∧ okP G2 w ∧ isPicB G2 w = isPicB G w ∧ (∀ G', Keeps G2 G' → fEq (.val w) (.val kept) G' = .ok (.val (.bl true)) G') ∧
    ∀ (a0 a1 a2 a4 a5 a6 a7 a9 : Option W), sSet 3 (mIf (mTru (mCall m_law_good [] (mCons (mVar 8) mNil))) (mCall m_law_copied [] (mCons (mVar 8) mNil)) (mVar 8)) [a0, a1, a2, none, a4, a5, a6, a7, some w, a9] G = .nx [a0, a1, a2, some kept, a4, a5, a6, a7, some w, a9] G2 := by
  have hg := law_good_eq h.ok
  cases hb : isPicB G w with
  | false =>
    rw [hb] at hg
    exact ⟨w, G, Keeps.refl _, h.ok, hb, h.eqs, fun _ _ _ _ _ _ _ _ => by simp [hg]⟩
  | true =>
    rw [hb] at hg
    obtain ⟨n, ms, pic, wide, rfl, hR, g⟩ := pic_of h.ok hb
    have hc := copied_eq hR (by rw [List.length_map]; have := g.h1; omega)
    have hD := laidR_rows G (pic.map iW)
    have hk : Keeps G (laidR G (pic.map iW)) := Keeps.app _ _
    have ho : okP (laidR G (pic.map iW)) (.loc n) ∧ isPicB (laidR G (pic.map iW)) (.loc n) = isPicB G (.loc n) := h.keep _ rfl
    generalize laidR G (pic.map iW) = G2 at *
    refine ⟨.loc (G.length + (pic.map iW).length), G2, hk, ho.1, by rw [ho.2, hb], fun G' k => ?_, fun _ _ _ _ _ _ _ _ => ?_⟩
    · have := RowsAt.eq (hR.keep (hk.trans k)) (hD.keep k)
      rw [decide_eq_true rfl] at this
      exact this
    · generalize pic.map iW = rows at *
      simp [hg, hc]
/-- told right: a picture, its size, or refused -/
theorem told_eq {G : GH} {w : W} (h : okP G w) (a0 a1 a2 a3 a4 a5 a6 a7 a9 : Option W) : ∃ a6', ∀ b : MS, (sSeq (sSet 2 (mCall m_law_good [] (mCons (mVar 8) mNil))) (sSeq (sSet 9 (mCall m_is_picture [] (mCons (mVar 8) mNil))) (sSeq (sIf (mOr (mNot (mTru (mBi fIsi (mConsT (mVar 9) (mConsT (mC (.ty "bool")) mNilT))))) (mOr (mB (mBin fNe (mVar 9) (mVar 2))) (mB (mBin fNe (mTup (mCons c_MOST_SIDE (mCons c_MOST_CELL mNil))) (mTup (mCons (mC (.int 24)) (mCons (mC (.int 15)) mNil))))))) (sRet (mC (.bl false))) sNext) (sSeq (sIf (mTru (mVar 2)) (sSeq (sSet 6 (mCall m_size_of [] (mCons (mVar 8) mNil))) (sIf (mOr (mB (mBin fIsNot (mCall m_need_picture [] (mCons (mVar 8) mNil)) (mC .non))) (mOr (mNot (mTru (mBi fIsi (mConsT (mVar 6) (mConsT (mC (.ty "tuple")) mNilT))))) (mB (mBin fNe (mVar 6) (mTup (mCons (mBi fLen (mConsT (mBin fIx (mVar 8) (mC (.int 0))) mNilT)) (mCons (mBi fLen (mConsT (mVar 8) mNilT)) mNil))))))) (sRet (mC (.bl false))) sNext)) (sIf (mNot (mTru (mCall m_law_refused [] (mCons (mVar 8) mNil)))) (sRet (mC (.bl false))) sNext)) b))))
    [a0, a1, a2, a3, a4, a5, a6, a7, some w, a9] G = b [a0, a1, some (.bl (isPicB G w)), a3, a4, a5, a6', a7, some w, some (.bl (isPicB G w))] G := by
  have hg := law_good_eq h
  have hp := is_picture_any h
  have n1 := ne_bl (isPicB G w) G
  have n2 := ne_sides G 24 15
  cases hb : isPicB G w with
  | true =>
    rw [hb] at hg hp n1
    obtain ⟨n, ms, pic, wide, rfl, hR, g⟩ := pic_of h hb
    have hs := size_good hR g
    have hn := need_picture_good hR g
    obtain ⟨r0, e0, f0⟩ := g.first
    obtain ⟨m0, em0, hm0⟩ := row_get hR e0
    have d1 := fLen_loc hR.top
    rw [List.length_map, hR.len, List.length_map] at d1
    have d2 := fIx_loc0 hR.top (by rw [List.getElem?_map, em0]; rfl : (ms.map W.loc)[0]? = some (.loc m0))
    have d3 := fLen_loc hm0
    rw [List.length_map, f0] at d3
    have n3 := ne_sides G wide pic.length
    have nn : fIsNot (.val .non) (.val .non) G = .ok (.val (.bl false)) G := rfl
    refine ⟨some (.tup [.int wide, .int pic.length]), fun b => ?_⟩
    rw [seq_nx (τ1 := [a0, a1, some (.bl true), a3, a4, a5, a6, a7, some (.loc n), a9]) (G1 := G) (by simp [hg])]
    rw [seq_nx (τ1 := [a0, a1, some (.bl true), a3, a4, a5, a6, a7, some (.loc n), some (.bl true)]) (G1 := G) (by simp [hp])]
    rw [seq_no (G1 := G) (by simp [n1, n2])]
    rw [seq_yes (G1 := G) (by simp)]
    refine seq_nx ?_
    rw [seq_nx (τ1 := [a0, a1, some (.bl true), a3, a4, a5, some (.tup [.int wide, .int pic.length]), a7, some (.loc n), some (.bl true)]) (G1 := G) (by simp [hs])]
    rw [if_no (G1 := G) (by simp [hn, nn, d1, d2, d3, n3])]
  | false =>
    rw [hb] at hg hp n1
    have hr := refused_eq hp
    refine ⟨a6, fun b => ?_⟩
    rw [seq_nx (τ1 := [a0, a1, some (.bl false), a3, a4, a5, a6, a7, some w, a9]) (G1 := G) (by simp [hg])]
    rw [seq_nx (τ1 := [a0, a1, some (.bl false), a3, a4, a5, a6, a7, some w, some (.bl false)]) (G1 := G) (by simp [hp])]
    rw [seq_no (G1 := G) (by simp [n1, n2])]
    rw [seq_else (G1 := G) (by simp)]
    exact seq_nx (if_no (by simp [hr]))
theorem cells_loop {G : GH} {L : Nat} {us : List W} (hL : G[L]? = some (.lst us)) (hu : ∀ u ∈ us, okW G u) (a0 a1 a2 a3 a4 a5 a6 a8 a9 : Option W) : ∃ b4 b9, sFor (miA (mVar 7)) (gN 4) (sSeq (sSet 9 (mCall m_is_cell [] (mCons (mVar 4) mNil))) (sIf (mOr (mNot (mTru (mBi fIsi (mConsT (mVar 9) (mConsT (mC (.ty "bool")) mNilT))))) (mB (mBin fNe (mVar 9) (mCall m_law_is_cell [] (mCons (mVar 4) mNil))))) (sRet (mC (.bl false))) sNext))
    [a0, a1, a2, a3, a4, a5, a6, some (.loc L), a8, a9] G = .nx [a0, a1, a2, a3, b4, a5, a6, some (.loc L), a8, b9] G := by
  have hit := iterA_at hL
  have hmi : miA (mVar 7) [a0, a1, a2, a3, a4, a5, a6, some (.loc L), a8, a9] G = .ok (us, [(L, us)]) G := by simp [miA_at, hit]
  rw [sFor_at, hmi, R.toS_ok]
  refine forL_run (I := fun _ τ G' => G' = G ∧ ∃ b4 b9, τ = [a0, a1, a2, a3, b4, a5, a6, some (.loc L), a8, b9]) (E := fun r => ∃ b4 b9, r = .nx [a0, a1, a2, a3, b4, a5, a6, some (.loc L), a8, b9] G) (τ := [a0, a1, a2, a3, a4, a5, a6, some (.loc L), a8, a9]) (G := G) ⟨rfl, _, _, rfl⟩ ?_ ?_
  · rintro i w τ G' hw ⟨rfl, b4, b9, rfl⟩
    have hwm := hu w (List.mem_of_getElem? hw)
    have e1 := is_cell_eq hwm
    have e2 := law_is_cell_eq hwm
    have n1 := ne_bl (cellW w) G'
    refine ⟨still_of hL, _, rfl, ?_⟩
    show Turn _ _ (sSeq _ _ [a0, a1, a2, a3, some w, a5, a6, some (.loc L), a8, b9] G')
    generalize cellW w = cw at *
    rw [seq_nx (τ1 := [a0, a1, a2, a3, some w, a5, a6, some (.loc L), a8, some (.bl cw)]) (G1 := G') (by simp [e1])]
    rw [if_no (G1 := G') (by simp [e2, n1])]
    exact ⟨rfl, _, _, rfl⟩
  · rintro τ G' ⟨rfl, b4, b9, rfl⟩
    exact ⟨still_of hL, _, _, rfl⟩
theorem ragged_bad (G : GH) : ∀ xs, m_is_picture [.loc (G.length + 3)] (G ++ [.lst (iW [1, 2]), .lst (iW [3, 4, 5]), .lst (iW [6]), .lst [.loc G.length, .loc (G.length + 1), .loc (G.length + 2)]] ++ xs) = .ok (.bl false) (G ++ [.lst (iW [1, 2]), .lst (iW [3, 4, 5]), .lst (iW [6]), .lst [.loc G.length, .loc (G.length + 1), .loc (G.length + 2)]] ++ xs) := by
  have g0 : (G ++ [GO.lst (iW [1, 2]), .lst (iW [3, 4, 5]), .lst (iW [6]), .lst [.loc G.length, .loc (G.length + 1), .loc (G.length + 2)]])[G.length]? = some (.lst (iW [1, 2])) := get_top0 _
  have g1 : (G ++ [GO.lst (iW [1, 2]), .lst (iW [3, 4, 5]), .lst (iW [6]), .lst [.loc G.length, .loc (G.length + 1), .loc (G.length + 2)]])[G.length + 1]? = some (.lst (iW [3, 4, 5])) := get_topk _ 1
  have g2 : (G ++ [GO.lst (iW [1, 2]), .lst (iW [3, 4, 5]), .lst (iW [6]), .lst [.loc G.length, .loc (G.length + 1), .loc (G.length + 2)]])[G.length + 2]? = some (.lst (iW [6])) := get_topk _ 2
  have g3 : (G ++ [GO.lst (iW [1, 2]), .lst (iW [3, 4, 5]), .lst (iW [6]), .lst [.loc G.length, .loc (G.length + 1), .loc (G.length + 2)]])[G.length + 3]? = some (.lst [.loc G.length, .loc (G.length + 1), .loc (G.length + 2)]) := get_topk _ 3
  generalize (G ++ [GO.lst (iW [1, 2]), .lst (iW [3, 4, 5]), .lst (iW [6]), .lst [.loc G.length, .loc (G.length + 1), .loc (G.length + 2)]]) = G1 at *
  refine badP_of ?_ ?_
  · refine ⟨okW_list g3, rfl, fun rs e => ?_⟩
    rw [lstOf_loc g3] at e
    cases e
    refine ⟨by simp, fun r hr => ?_⟩
    simp at hr
    rcases hr with rfl | rfl | rfl
    · exact okR_ints g0 (by decide)
    · exact okR_ints g1 (by decide)
    · exact okR_ints g2 (by decide)
  · unfold isPicB
    rw [lstOf_loc g3]
    have q0 : lenOf G1 (.loc G.length) = 2 := by unfold lenOf; rw [lstOf_loc g0]; rfl
    have q1 : lenOf G1 (.loc (G.length + 1)) = 3 := by unfold lenOf; rw [lstOf_loc g1]; rfl
    simp [q0, q1]
theorem law_body (ns : List Int) : ∃ G, b_law [some (scr ns), none, none, none, none, none, none, none, none, none] [] = .rt (.bl true) G := by
  unfold b_law
  have k3 := cell_eq ns 3 (by decide)
  have k4 := cell_eq ns 4 (by decide)
  have k5 := cell_eq ns 5 (by decide)
  have k6 := cell_eq ns 6 (by decide)
  generalize cellZ ns 3 = c3 at *
  generalize cellZ ns 4 = c4 at *
  generalize cellZ ns 5 = c5 at *
  generalize cellZ ns 6 = c6 at *
  obtain ⟨w, G1, hT, hd⟩ := drawn_thing ns c3 k3 none none none none none none none none []
  rw [hd]
  clear hd
  obtain ⟨kept, G2, hk, hok, hpb, heq, hset⟩ := kept_eq hT
  rw [seq_nx (hset ..)]
  clear hset hT
  obtain ⟨b6, ht⟩ := told_eq hok (some (scr ns)) (some (.int c3)) none (some kept) none none none none none
  rw [ht]
  clear ht
  generalize isPicB G2 w = pb
  obtain ⟨u, hu, hu2, _⟩ := law_odd_eq c4 G2
  have hl := last_get (G2 ++ [.lst [.int 0]]) (.lst [u, .int (c4 % 16), .int (c4 % 40 - 12)])
  have hok3 : ∀ v ∈ [u, .int (c4 % 16), .int (c4 % 40 - 12)], okW (G2 ++ [.lst [.int 0]] ++ [.lst [u, .int (c4 % 16), .int (c4 % 40 - 12)]]) v := fun v hv => by
    simp at hv
    rcases hv with rfl | rfl | rfl
    · exact okW_app _ hu2
    · rfl
    · rfl
  rw [seq_nx (τ1 := [some (scr ns), some (.int c3), some (.bl pb), some kept, none, none, b6, some (.loc (G2 ++ [GO.lst [.int 0]]).length), some w, some (.bl pb)]) (G1 := G2 ++ [.lst [.int 0]] ++ [.lst [u, .int (c4 % 16), .int (c4 % 40 - 12)]]) (by
    generalize scr ns = sn at *
    clear hl hok3
    generalize hX : G2 ++ [GO.lst [.int 0]] = G3 at *
    simp [k4, hu, fMod_int])]
  have hk3 : Keeps G2 (G2 ++ [.lst [.int 0]] ++ [.lst [u, .int (c4 % 16), .int (c4 % 40 - 12)]]) := (Keeps.app _ _).two _
  generalize G2 ++ [.lst [.int 0]] ++ [.lst [u, .int (c4 % 16), .int (c4 % 40 - 12)]] = G3 at *
  obtain ⟨b4, b9, hlp⟩ := cells_loop hl hok3 (some (scr ns)) (some (.int c3)) (some (.bl pb)) (some kept) none none b6 (some w) (some (.bl pb))
  rw [seq_nx hlp]
  clear hlp hok3 hl hu hu2
  generalize (G2 ++ [GO.lst [.int 0]]).length = L
  have hrg := ragged_bad G3 []
  rw [List.append_nil] at hrg
  have hrf := refused_eq hrg
  have hk4 : Keeps G3 (G3 ++ [.lst (iW [1, 2]), .lst (iW [3, 4, 5]), .lst (iW [6]), .lst [.loc G3.length, .loc (G3.length + 1), .loc (G3.length + 2)]]) := Keeps.app _ _
  rw [seq_nx (τ1 := [some (scr ns), some (.int c3), some (.bl pb), some kept, b4, some (.loc (G3.length + 3)), b6, some (.loc L), some w, b9]) (G1 := G3 ++ [.lst (iW [1, 2]), .lst (iW [3, 4, 5]), .lst (iW [6]), .lst [.loc G3.length, .loc (G3.length + 1), .loc (G3.length + 2)]]) (by
    generalize scr ns = sn at *
    simp)]
  generalize G3 ++ [.lst (iW [1, 2]), .lst (iW [3, 4, 5]), .lst (iW [6]), .lst [.loc G3.length, .loc (G3.length + 1), .loc (G3.length + 2)]] = G4 at *
  have nn : fIsNot (.val (.bl false)) (.val (.bl false)) G4 = .ok (.val (.bl false)) G4 := rfl
  rw [seq_no (G1 := G4) (by simp [hrg, nn, hrf])]
  obtain ⟨G5, hb⟩ := blanks_right c5 c6 G4
  have he := heq G4 (hk3.trans hk4)
  refine ⟨G5, ?_⟩
  generalize scr ns = sn at *
  simp [he, k5, k6, hb]
theorem law_ok : ∀ ns : List Int, ns.length ≤ 63 → (∀ z ∈ ns, Builtin.Int.intBits z ≤ 1048576) → ∃ G, m_law [.frl (ns.map W.int)] [] = .ok (.bl true) G := by
  intro ns _ _
  obtain ⟨G, h⟩ := law_body ns
  exact ⟨G, mDef_ok _ h⟩
end Lk01
set_option Elab.async false
set_option linter.all false
set_option maxRecDepth 100000
set_option maxHeartbeats 4000000
namespace Lk01
open PySem PySem.Spec PyProof.Rows L2 Sy
def fb : List (PySem.W.Frag → Bool) := [itF names it, xtF names xt]
def fn0 : List He.DefD := [⟨("is_among", none), "is_among", "is_among", defArgs s_is_among, defBody s_is_among, defScope s_is_among, [], []⟩, ⟨("is_cell", none), "is_cell", "is_cell", defArgs s_is_cell, defBody s_is_cell, defScope s_is_cell, [], []⟩, ⟨("are_cells", none), "are_cells", "are_cells", defArgs s_are_cells, defBody s_are_cells, defScope s_are_cells, [], []⟩, ⟨("is_picture", none), "is_picture", "is_picture", defArgs s_is_picture, defBody s_is_picture, defScope s_is_picture, [], []⟩, ⟨("need_picture", none), "need_picture", "need_picture", defArgs s_need_picture, defBody s_need_picture, defScope s_need_picture, [], []⟩, ⟨("need_cell", none), "need_cell", "need_cell", defArgs s_need_cell, defBody s_need_cell, defScope s_need_cell, [], []⟩, ⟨("need_sides", none), "need_sides", "need_sides", defArgs s_need_sides, defBody s_need_sides, defScope s_need_sides, [], []⟩, ⟨("size_of", none), "size_of", "size_of", defArgs s_size_of, defBody s_size_of, defScope s_size_of, [], []⟩, ⟨("blank_picture", none), "blank_picture", "blank_picture", defArgs s_blank_picture, defBody s_blank_picture, defScope s_blank_picture, [.int 0], []⟩, ⟨("_law_cell_at", none), "_law_cell_at", "_law_cell_at", defArgs s_law_cell_at, defBody s_law_cell_at, defScope s_law_cell_at, [], []⟩, ⟨("_law_mixed", none), "_law_mixed", "_law_mixed", defArgs s_law_mixed, defBody s_law_mixed, defScope s_law_mixed, [], []⟩, ⟨("_law_picture", none), "_law_picture", "_law_picture", defArgs s_law_picture, defBody s_law_picture, defScope s_law_picture, [], []⟩, ⟨("_law_copied", none), "_law_copied", "_law_copied", defArgs s_law_copied, defBody s_law_copied, defScope s_law_copied, [], []⟩, ⟨("_law_is_like", none), "_law_is_like", "_law_is_like", defArgs s_law_is_like, defBody s_law_is_like, defScope s_law_is_like, [], []⟩, ⟨("_law_odd", none), "_law_odd", "_law_odd", defArgs s_law_odd, defBody s_law_odd, defScope s_law_odd, [], []⟩, ⟨("_law_spoilt", none), "_law_spoilt", "_law_spoilt", defArgs s_law_spoilt, defBody s_law_spoilt, defScope s_law_spoilt, [], []⟩, ⟨("_law_is_cell", none), "_law_is_cell", "_law_is_cell", defArgs s_law_is_cell, defBody s_law_is_cell, defScope s_law_is_cell, [], []⟩, ⟨("_law_good", none), "_law_good", "_law_good", defArgs s_law_good, defBody s_law_good, defScope s_law_good, [], []⟩, ⟨("_law_refused", none), "_law_refused", "_law_refused", defArgs s_law_refused, defBody s_law_refused, defScope s_law_refused, [], []⟩, ⟨("_law_blank", none), "_law_blank", "_law_blank", defArgs s_law_blank, defBody s_law_blank, defScope s_law_blank, [], []⟩, ⟨("_law_blanks_right", none), "_law_blanks_right", "_law_blanks_right", defArgs s_law_blanks_right, defBody s_law_blanks_right, defScope s_law_blanks_right, [], []⟩, ⟨("law", none), "law", "law", defArgs s_law, defBody s_law, defScope s_law, [], []⟩]
def fn : List He.DefD := fn0
def fa0 : List He.Fa := [.glo "is_among", .glo "is_cell", .glo "are_cells", .glo "is_picture", .glo "need_picture", .glo "need_cell", .glo "need_sides", .glo "size_of", .glo "blank_picture", .glo "_law_cell_at", .glo "_law_mixed", .glo "_law_picture", .glo "_law_copied", .glo "_law_is_like", .glo "_law_odd", .glo "_law_spoilt", .glo "_law_is_cell", .glo "_law_good", .glo "_law_refused", .glo "_law_blank", .glo "_law_blanks_right", .glo "law", .free "ValueError", .free "all", .free "bool", .free "int", .free "isinstance", .free "len", .free "list", .free "range"]
def fa1 : List He.Fa := [.free "tuple", .free "zip", .int "MOST_CELL" 15, .int "MOST_SIDE" 24, .glo "FolioError", .glo "BadPicture", .glo "BadCell", .glo "BadSize", .exc "BadPicture", .exc "BadCell", .exc "BadSize"]
def fa : List He.Fa := fa0 ++ fa1
theorem facts {P : Program} {w : World} {K : PySem.W.Frag} {h : Heap} {mg : Str → Option Value} {f : Addr} (X : K.In h) (G : h.Ns mainGlobals mg) (hfa : mg "law" = some (.ref f)) (c : He.SaysD fa fn K) (cb : (fb.all fun f => f K) = true) :
    ∃ fd : FuncData, (∀ (s : Shared) (v : Value), BindsTo s fd ⟨[v], []⟩ [("_law_script", v)]) ∧ ∀ base : Heap, K.In base → base.Ns mainGlobals mg → FnOk P w K mg base (L2N.CX P w) 8 f fd ["_law_script"] (spM K (caN names K) 1 m_law) := by
  have T : Tx K mg (caN names K) := ⟨He.free_ok X G (c.fact 22 (f := .free "ValueError") rfl), He.free_ok X G (c.fact 23 (f := .free "all") rfl), He.free_ok X G (c.fact 24 (f := .free "bool") rfl), He.free_ok X G (c.fact 25 (f := .free "int") rfl), He.free_ok X G (c.fact 26 (f := .free "isinstance") rfl), He.free_ok X G (c.fact 27 (f := .free "len") rfl), He.free_ok X G (c.fact 28 (f := .free "list") rfl), He.free_ok X G (c.fact 29 (f := .free "range") rfl), He.free_ok X G (c.fact 30 (f := .free "tuple") rfl), He.free_ok X G (c.fact 31 (f := .free "zip") rfl), konW_intE (He.int_ok X G (c.fact 32 (f := .int "MOST_CELL" 15) rfl)), konW_intE (He.int_ok X G (c.fact 33 (f := .int "MOST_SIDE" 24) rfl)), cls_glo X G rfl (c.fact 34 (f := .glo "FolioError") rfl), cls_glo X G rfl (c.fact 35 (f := .glo "BadPicture") rfl), cls_glo X G rfl (c.fact 36 (f := .glo "BadCell") rfl), cls_glo X G rfl (c.fact 37 (f := .glo "BadSize") rfl), exW_of X G rfl (c.fact 35 (f := .glo "BadPicture") rfl) (c.fact 38 (f := .exc "BadPicture") rfl), exW_of X G rfl (c.fact 36 (f := .glo "BadCell") rfl) (c.fact 39 (f := .exc "BadCell") rfl), exW_of X G rfl (c.fact 37 (f := .glo "BadSize") rfl) (c.fact 40 (f := .exc "BadSize") rfl), exs_of (fact_of cb 0) (fact_of cb 1)⟩
  obtain ⟨fd_is_among, F_is_among⟩ := c.def_ 0 (d := ⟨("is_among", none), "is_among", "is_among", defArgs s_is_among, defBody s_is_among, defScope s_is_among, [], []⟩) rfl
  have g_is_among := He.glo_ok X G (c.fact 0 (f := .glo "is_among") rfl)
  have b_is_among : Binds K fd_is_among P_is_among [] := F_is_among.bindsN fun _ _ _ _ _ _ us hl => match us, hl with | [_, _, _], _ => rfl
  obtain ⟨fd_is_cell, F_is_cell⟩ := c.def_ 1 (d := ⟨("is_cell", none), "is_cell", "is_cell", defArgs s_is_cell, defBody s_is_cell, defScope s_is_cell, [], []⟩) rfl
  have g_is_cell := He.glo_ok X G (c.fact 1 (f := .glo "is_cell") rfl)
  have b_is_cell : Binds K fd_is_cell P_is_cell [] := F_is_cell.bindsN fun _ _ _ _ _ _ us hl => match us, hl with | [_], _ => rfl
  obtain ⟨fd_are_cells, F_are_cells⟩ := c.def_ 2 (d := ⟨("are_cells", none), "are_cells", "are_cells", defArgs s_are_cells, defBody s_are_cells, defScope s_are_cells, [], []⟩) rfl
  have g_are_cells := He.glo_ok X G (c.fact 2 (f := .glo "are_cells") rfl)
  have b_are_cells : Binds K fd_are_cells P_are_cells [] := F_are_cells.bindsN fun _ _ _ _ _ _ us hl => match us, hl with | [_], _ => rfl
  obtain ⟨fd_is_picture, F_is_picture⟩ := c.def_ 3 (d := ⟨("is_picture", none), "is_picture", "is_picture", defArgs s_is_picture, defBody s_is_picture, defScope s_is_picture, [], []⟩) rfl
  have g_is_picture := He.glo_ok X G (c.fact 3 (f := .glo "is_picture") rfl)
  have b_is_picture : Binds K fd_is_picture P_is_picture [] := F_is_picture.bindsN fun _ _ _ _ _ _ us hl => match us, hl with | [_], _ => rfl
  obtain ⟨fd_need_picture, F_need_picture⟩ := c.def_ 4 (d := ⟨("need_picture", none), "need_picture", "need_picture", defArgs s_need_picture, defBody s_need_picture, defScope s_need_picture, [], []⟩) rfl
  have g_need_picture := He.glo_ok X G (c.fact 4 (f := .glo "need_picture") rfl)
  have b_need_picture : Binds K fd_need_picture P_need_picture [] := F_need_picture.bindsN fun _ _ _ _ _ _ us hl => match us, hl with | [_], _ => rfl
  obtain ⟨fd_need_cell, F_need_cell⟩ := c.def_ 5 (d := ⟨("need_cell", none), "need_cell", "need_cell", defArgs s_need_cell, defBody s_need_cell, defScope s_need_cell, [], []⟩) rfl
  have g_need_cell := He.glo_ok X G (c.fact 5 (f := .glo "need_cell") rfl)
  have b_need_cell : Binds K fd_need_cell P_need_cell [] := F_need_cell.bindsN fun _ _ _ _ _ _ us hl => match us, hl with | [_], _ => rfl
  obtain ⟨fd_need_sides, F_need_sides⟩ := c.def_ 6 (d := ⟨("need_sides", none), "need_sides", "need_sides", defArgs s_need_sides, defBody s_need_sides, defScope s_need_sides, [], []⟩) rfl
  have g_need_sides := He.glo_ok X G (c.fact 6 (f := .glo "need_sides") rfl)
  have b_need_sides : Binds K fd_need_sides P_need_sides [] := F_need_sides.bindsN fun _ _ _ _ _ _ us hl => match us, hl with | [_, _], _ => rfl
  obtain ⟨fd_size_of, F_size_of⟩ := c.def_ 7 (d := ⟨("size_of", none), "size_of", "size_of", defArgs s_size_of, defBody s_size_of, defScope s_size_of, [], []⟩) rfl
  have g_size_of := He.glo_ok X G (c.fact 7 (f := .glo "size_of") rfl)
  have b_size_of : Binds K fd_size_of P_size_of [] := F_size_of.bindsN fun _ _ _ _ _ _ us hl => match us, hl with | [_], _ => rfl
  obtain ⟨fd_blank_picture, F_blank_picture⟩ := c.def_ 8 (d := ⟨("blank_picture", none), "blank_picture", "blank_picture", defArgs s_blank_picture, defBody s_blank_picture, defScope s_blank_picture, [.int 0], []⟩) rfl
  have g_blank_picture := He.glo_ok X G (c.fact 8 (f := .glo "blank_picture") rfl)
  obtain ⟨fd_law_cell_at, F_law_cell_at⟩ := c.def_ 9 (d := ⟨("_law_cell_at", none), "_law_cell_at", "_law_cell_at", defArgs s_law_cell_at, defBody s_law_cell_at, defScope s_law_cell_at, [], []⟩) rfl
  have g_law_cell_at := He.glo_ok X G (c.fact 9 (f := .glo "_law_cell_at") rfl)
  have b_law_cell_at : Binds K fd_law_cell_at P_law_cell_at [] := F_law_cell_at.bindsN fun _ _ _ _ _ _ us hl => match us, hl with | [_, _], _ => rfl
  obtain ⟨fd_law_mixed, F_law_mixed⟩ := c.def_ 10 (d := ⟨("_law_mixed", none), "_law_mixed", "_law_mixed", defArgs s_law_mixed, defBody s_law_mixed, defScope s_law_mixed, [], []⟩) rfl
  have g_law_mixed := He.glo_ok X G (c.fact 10 (f := .glo "_law_mixed") rfl)
  have b_law_mixed : Binds K fd_law_mixed P_law_mixed [] := F_law_mixed.bindsN fun _ _ _ _ _ _ us hl => match us, hl with | [_, _], _ => rfl
  obtain ⟨fd_law_picture, F_law_picture⟩ := c.def_ 11 (d := ⟨("_law_picture", none), "_law_picture", "_law_picture", defArgs s_law_picture, defBody s_law_picture, defScope s_law_picture, [], []⟩) rfl
  have g_law_picture := He.glo_ok X G (c.fact 11 (f := .glo "_law_picture") rfl)
  have b_law_picture : Binds K fd_law_picture P_law_picture [] := F_law_picture.bindsN fun _ _ _ _ _ _ us hl => match us, hl with | [_, _, _], _ => rfl
  obtain ⟨fd_law_copied, F_law_copied⟩ := c.def_ 12 (d := ⟨("_law_copied", none), "_law_copied", "_law_copied", defArgs s_law_copied, defBody s_law_copied, defScope s_law_copied, [], []⟩) rfl
  have g_law_copied := He.glo_ok X G (c.fact 12 (f := .glo "_law_copied") rfl)
  have b_law_copied : Binds K fd_law_copied P_law_copied [] := F_law_copied.bindsN fun _ _ _ _ _ _ us hl => match us, hl with | [_], _ => rfl
  obtain ⟨fd_law_is_like, F_law_is_like⟩ := c.def_ 13 (d := ⟨("_law_is_like", none), "_law_is_like", "_law_is_like", defArgs s_law_is_like, defBody s_law_is_like, defScope s_law_is_like, [], []⟩) rfl
  have g_law_is_like := He.glo_ok X G (c.fact 13 (f := .glo "_law_is_like") rfl)
  have b_law_is_like : Binds K fd_law_is_like P_law_is_like [] := F_law_is_like.bindsN fun _ _ _ _ _ _ us hl => match us, hl with | [_, _], _ => rfl
  obtain ⟨fd_law_odd, F_law_odd⟩ := c.def_ 14 (d := ⟨("_law_odd", none), "_law_odd", "_law_odd", defArgs s_law_odd, defBody s_law_odd, defScope s_law_odd, [], []⟩) rfl
  have g_law_odd := He.glo_ok X G (c.fact 14 (f := .glo "_law_odd") rfl)
  have b_law_odd : Binds K fd_law_odd P_law_odd [] := F_law_odd.bindsN fun _ _ _ _ _ _ us hl => match us, hl with | [_], _ => rfl
  obtain ⟨fd_law_spoilt, F_law_spoilt⟩ := c.def_ 15 (d := ⟨("_law_spoilt", none), "_law_spoilt", "_law_spoilt", defArgs s_law_spoilt, defBody s_law_spoilt, defScope s_law_spoilt, [], []⟩) rfl
  have g_law_spoilt := He.glo_ok X G (c.fact 15 (f := .glo "_law_spoilt") rfl)
  have b_law_spoilt : Binds K fd_law_spoilt P_law_spoilt [] := F_law_spoilt.bindsN fun _ _ _ _ _ _ us hl => match us, hl with | [_, _], _ => rfl
  obtain ⟨fd_law_is_cell, F_law_is_cell⟩ := c.def_ 16 (d := ⟨("_law_is_cell", none), "_law_is_cell", "_law_is_cell", defArgs s_law_is_cell, defBody s_law_is_cell, defScope s_law_is_cell, [], []⟩) rfl
  have g_law_is_cell := He.glo_ok X G (c.fact 16 (f := .glo "_law_is_cell") rfl)
  have b_law_is_cell : Binds K fd_law_is_cell P_law_is_cell [] := F_law_is_cell.bindsN fun _ _ _ _ _ _ us hl => match us, hl with | [_], _ => rfl
  obtain ⟨fd_law_good, F_law_good⟩ := c.def_ 17 (d := ⟨("_law_good", none), "_law_good", "_law_good", defArgs s_law_good, defBody s_law_good, defScope s_law_good, [], []⟩) rfl
  have g_law_good := He.glo_ok X G (c.fact 17 (f := .glo "_law_good") rfl)
  have b_law_good : Binds K fd_law_good P_law_good [] := F_law_good.bindsN fun _ _ _ _ _ _ us hl => match us, hl with | [_], _ => rfl
  obtain ⟨fd_law_refused, F_law_refused⟩ := c.def_ 18 (d := ⟨("_law_refused", none), "_law_refused", "_law_refused", defArgs s_law_refused, defBody s_law_refused, defScope s_law_refused, [], []⟩) rfl
  have g_law_refused := He.glo_ok X G (c.fact 18 (f := .glo "_law_refused") rfl)
  have b_law_refused : Binds K fd_law_refused P_law_refused [] := F_law_refused.bindsN fun _ _ _ _ _ _ us hl => match us, hl with | [_], _ => rfl
  obtain ⟨fd_law_blank, F_law_blank⟩ := c.def_ 19 (d := ⟨("_law_blank", none), "_law_blank", "_law_blank", defArgs s_law_blank, defBody s_law_blank, defScope s_law_blank, [], []⟩) rfl
  have g_law_blank := He.glo_ok X G (c.fact 19 (f := .glo "_law_blank") rfl)
  have b_law_blank : Binds K fd_law_blank P_law_blank [] := F_law_blank.bindsN fun _ _ _ _ _ _ us hl => match us, hl with | [_, _, _], _ => rfl
  obtain ⟨fd_law_blanks_right, F_law_blanks_right⟩ := c.def_ 20 (d := ⟨("_law_blanks_right", none), "_law_blanks_right", "_law_blanks_right", defArgs s_law_blanks_right, defBody s_law_blanks_right, defScope s_law_blanks_right, [], []⟩) rfl
  have g_law_blanks_right := He.glo_ok X G (c.fact 20 (f := .glo "_law_blanks_right") rfl)
  have b_law_blanks_right : Binds K fd_law_blanks_right P_law_blanks_right [] := F_law_blanks_right.bindsN fun _ _ _ _ _ _ us hl => match us, hl with | [_, _], _ => rfl
  obtain ⟨fd_law, F_law⟩ := c.def_ 21 (d := ⟨("law", none), "law", "law", defArgs s_law, defBody s_law, defScope s_law, [], []⟩) rfl
  have e := hfa.symm.trans (He.glo_ok X G (c.fact 21 (f := .glo "law") rfl))
  cases e
  have b := FunD.bindsA (ps := P_law) F_law fun _ _ _ _ _ _ us hl => match us, hl with | [_], _ => rfl
  refine ⟨fd_law, fun s v => b s [v] rfl, fun base _ _ => ?_⟩
  have O_is_among := ok_is_among (P := P) (w := w) (base := base) F_is_among T
  have C_is_among : Callable P w K mg base (caN names K) 1 "is_among" P_is_among [] m_is_among := callable_mk g_is_among F_is_among.kp b_is_among O_is_among
  have O_is_cell := ok_is_cell (P := P) (w := w) (base := base) F_is_cell T C_is_among
  have C_is_cell : Callable P w K mg base (caN names K) 2 "is_cell" P_is_cell [] m_is_cell := callable_mk g_is_cell F_is_cell.kp b_is_cell O_is_cell
  have O_are_cells := ok_are_cells (P := P) (w := w) (base := base) F_are_cells T C_is_cell
  have C_are_cells : Callable P w K mg base (caN names K) 3 "are_cells" P_are_cells [] m_are_cells := callable_mk g_are_cells F_are_cells.kp b_are_cells O_are_cells
  have O_is_picture := ok_is_picture (P := P) (w := w) (base := base) F_is_picture T C_are_cells
  have C_is_picture : Callable P w K mg base (caN names K) 4 "is_picture" P_is_picture [] m_is_picture := callable_mk g_is_picture F_is_picture.kp b_is_picture O_is_picture
  have O_need_picture := ok_need_picture (P := P) (w := w) (base := base) F_need_picture T C_is_picture
  have C_need_picture : Callable P w K mg base (caN names K) 5 "need_picture" P_need_picture [] m_need_picture := callable_mk g_need_picture F_need_picture.kp b_need_picture O_need_picture
  have O_need_cell := ok_need_cell (P := P) (w := w) (base := base) F_need_cell T C_is_cell
  have C_need_cell : Callable P w K mg base (caN names K) 3 "need_cell" P_need_cell [] m_need_cell := callable_mk g_need_cell F_need_cell.kp b_need_cell O_need_cell
  have O_need_sides := ok_need_sides (P := P) (w := w) (base := base) F_need_sides T C_is_among
  have C_need_sides : Callable P w K mg base (caN names K) 2 "need_sides" P_need_sides [] m_need_sides := callable_mk g_need_sides F_need_sides.kp b_need_sides O_need_sides
  have O_size_of := ok_size_of (P := P) (w := w) (base := base) F_size_of T C_need_picture
  have C_size_of : Callable P w K mg base (caN names K) 6 "size_of" P_size_of [] m_size_of := callable_mk g_size_of F_size_of.kp b_size_of O_size_of
  have O_blank_picture := ok_blank_picture (P := P) (w := w) (base := base) F_blank_picture T C_need_cell C_need_sides
  have C_blank_picture : Callable P w K mg base (caN names K) 4 "blank_picture" P_blank_picture [] m_blank_picture := callable_mkD g_blank_picture F_blank_picture.kp (F_blank_picture.binds1 3 1 (List.cons_ne_nil _ _) rfl fun _ _ _ _ _ _ _ us its h1 h2 => match us, h1, its, h2 with | [_, _, _], _, [_], _ => ⟨_, rfl, rfl⟩) (fun _ _ => .nil) O_blank_picture
  have C_blank_picture_d1 : Callable P w K mg base (caN names K) 4 "blank_picture" P_blank_picture [.int 0] m_blank_picture := callable_mkD g_blank_picture F_blank_picture.kp (F_blank_picture.binds1 2 0 (List.cons_ne_nil _ _) rfl fun _ _ _ _ _ _ _ us its h1 h2 => match us, h1, its, h2 with | [_, _], _, [_], _ => ⟨_, rfl, rfl⟩) (fun _ _ => (.cons (.int _) .nil)) O_blank_picture
  have O_law_cell_at := ok_law_cell_at (P := P) (w := w) (base := base) F_law_cell_at T
  have C_law_cell_at : Callable P w K mg base (caN names K) 1 "_law_cell_at" P_law_cell_at [] m_law_cell_at := callable_mk g_law_cell_at F_law_cell_at.kp b_law_cell_at O_law_cell_at
  have O_law_mixed := ok_law_mixed (P := P) (w := w) (base := base) F_law_mixed T
  have C_law_mixed : Callable P w K mg base (caN names K) 1 "_law_mixed" P_law_mixed [] m_law_mixed := callable_mk g_law_mixed F_law_mixed.kp b_law_mixed O_law_mixed
  have O_law_picture := ok_law_picture (P := P) (w := w) (base := base) F_law_picture T C_law_cell_at C_law_mixed
  have C_law_picture : Callable P w K mg base (caN names K) 2 "_law_picture" P_law_picture [] m_law_picture := callable_mk g_law_picture F_law_picture.kp b_law_picture O_law_picture
  have O_law_copied := ok_law_copied (P := P) (w := w) (base := base) F_law_copied T
  have C_law_copied : Callable P w K mg base (caN names K) 1 "_law_copied" P_law_copied [] m_law_copied := callable_mk g_law_copied F_law_copied.kp b_law_copied O_law_copied
  have O_law_is_like := ok_law_is_like (P := P) (w := w) (base := base) F_law_is_like T
  have C_law_is_like : Callable P w K mg base (caN names K) 1 "_law_is_like" P_law_is_like [] m_law_is_like := callable_mk g_law_is_like F_law_is_like.kp b_law_is_like O_law_is_like
  have O_law_odd := ok_law_odd (P := P) (w := w) (base := base) F_law_odd T
  have C_law_odd : Callable P w K mg base (caN names K) 1 "_law_odd" P_law_odd [] m_law_odd := callable_mk g_law_odd F_law_odd.kp b_law_odd O_law_odd
  have O_law_spoilt := ok_law_spoilt (P := P) (w := w) (base := base) F_law_spoilt T C_law_copied C_law_odd
  have C_law_spoilt : Callable P w K mg base (caN names K) 2 "_law_spoilt" P_law_spoilt [] m_law_spoilt := callable_mk g_law_spoilt F_law_spoilt.kp b_law_spoilt O_law_spoilt
  have O_law_is_cell := ok_law_is_cell (P := P) (w := w) (base := base) F_law_is_cell T
  have C_law_is_cell : Callable P w K mg base (caN names K) 1 "_law_is_cell" P_law_is_cell [] m_law_is_cell := callable_mk g_law_is_cell F_law_is_cell.kp b_law_is_cell O_law_is_cell
  have O_law_good := ok_law_good (P := P) (w := w) (base := base) F_law_good T C_law_is_cell
  have C_law_good : Callable P w K mg base (caN names K) 2 "_law_good" P_law_good [] m_law_good := callable_mk g_law_good F_law_good.kp b_law_good O_law_good
  have O_law_refused := ok_law_refused (P := P) (w := w) (base := base) F_law_refused T C_need_picture C_size_of
  have C_law_refused : Callable P w K mg base (caN names K) 7 "_law_refused" P_law_refused [] m_law_refused := callable_mk g_law_refused F_law_refused.kp b_law_refused O_law_refused
  have O_law_blank := ok_law_blank (P := P) (w := w) (base := base) F_law_blank T C_blank_picture
  have C_law_blank : Callable P w K mg base (caN names K) 5 "_law_blank" P_law_blank [] m_law_blank := callable_mk g_law_blank F_law_blank.kp b_law_blank O_law_blank
  have O_law_blanks_right := ok_law_blanks_right (P := P) (w := w) (base := base) F_law_blanks_right T C_law_blank C_law_is_cell C_law_is_like C_law_odd C_blank_picture_d1
  have C_law_blanks_right : Callable P w K mg base (caN names K) 6 "_law_blanks_right" P_law_blanks_right [] m_law_blanks_right := callable_mk g_law_blanks_right F_law_blanks_right.kp b_law_blanks_right O_law_blanks_right
  exact ok_law F_law T C_law_blanks_right C_law_cell_at C_law_copied C_law_good C_law_is_cell C_law_odd C_law_picture C_law_refused C_law_spoilt C_is_cell C_is_picture C_need_picture C_size_of
end Lk01
namespace Lk01
open PySem PySem.Spec PyProof.Rows L2 Sy
def loose0 : List PySem.Str := ["FolioError", "BadPicture", "BadCell", "BadSize", "MOST_SIDE", "MOST_CELL", "is_among", "is_cell", "are_cells", "is_picture", "need_picture", "need_cell", "need_sides", "size_of", "blank_picture", "_law_cell_at", "_law_mixed", "_law_picture", "_law_copied", "_law_is_like", "_law_odd", "_law_spoilt", "_law_is_cell", "_law_good", "_law_refused", "_law_blank", "_law_blanks_right"]
def loose : List PySem.Str := loose0
abbrev R : PySem.W.OpenRow := PySem.W.OpenLaw.row PySem.Challenge.rw_cellfolio_k01_cells_and_pictures
abbrev hk : PySem.W.Hook := hookX 4 fa fn fb
noncomputable def ob (s : PySem.W.SharedT) : AlX := obsXG 4 fa fn fb (HandSHeadRun.getT s)
theorem ob_eq (s : PySem.W.SharedT) : ob s = hk.obs s.abs := obsXG_eq (HandSHeadRun.getT_eq s)
set_option maxHeartbeats 0 in
theorem run (w : World) : HandSHeadRun.RunEq R (PySem.W.view R.prog [30]) hk ob 40000 loose w := by
  intro os
  kernel_rfl
end Lk01
open PySem PySem.W PySem.Calls PyProof.Rows
set_option maxHeartbeats 0 in
theorem PySem.Challenge.cw_cellfolio_k01_cells_and_pictures_holds : PySem.Challenge.rw_cellfolio_k01_cells_and_pictures.Holds := by
  w_on; o_law
  refine HandSHeadRun.head_any (r := OpenLaw.row PySem.Challenge.rw_cellfolio_k01_cells_and_pictures) (q := view (OpenLaw.row PySem.Challenge.rw_cellfolio_k01_cells_and_pictures).prog [30]) (H := Lk01.hk) (ob := Lk01.ob) (M := 40000) (loose := Lk01.loose) (d := HandSHeadRun.topDef (OpenLaw.row PySem.Challenge.rw_cellfolio_k01_cells_and_pictures).prog 30) (kwd := []) Lk01.ob_eq
    (by kernel_rfl) (fun s => by kernel_rfl) Lk01.run (by kernel_rfl) (by kernel_rfl) (by kernel_rfl) (by rfl) (by first | assumption | decide +kernel) (by decide +kernel) ⟨rfl, rfl, rfl, rfl, rfl, by decide +kernel⟩ ?hw ?hc
  case hw => w_witness2
  case hc =>
    refine Sy.law_endX (l := PySem.Challenge.rw_cellfolio_k01_cells_and_pictures) (k := 8) (x := "_law_script") (ca := Sy.caN Lk01.names) (m := Lk01.m_law) rfl (by kernel_rfl) ⟨rfl, by decide, by decide⟩ ?F Lk01.law_ok
    intro w mg fv h K KX c cb G hmg0
    have hmg : mg ("law" : PySem.Str) = some (.ref fv) := by
      have e : (HandSHeadRun.topDef (OpenLaw.row PySem.Challenge.rw_cellfolio_k01_cells_and_pictures).prog 30).name = ("law" : PySem.Str) := by kernel_rfl
      rw [← e]
      exact hmg0
    exact Lk01.facts KX G hmg c cb
