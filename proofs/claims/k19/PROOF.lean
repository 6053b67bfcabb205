import PyProof.Rows.All
import Wide.All
import OpenK.AllK
import Wide.FinOn
import HandS.ForMost
import HandS.ForExc
import HandS.CallSlots
import HandS.DictComp
import HandS.Flow
import HandS.TupAny
import HandS.TupMul
import HandS.Wide
import HandS.IsInst
import HandS.Deep
import HandS.Conv
import HandS.Walk
import HandS.More
import KE.GoesMore
import HandS.ExcInit
import HandS.ExcField
import HandS.Style
import HandS.Small
import KE.KStateDown
import HandS.Ends
import HandS.Words
import HandS.WordsExc
import HandS.Defaults
import HandS.Head0
import HandS.Head1
import HandS.Head2
import HandS.HeadEnd
import HandS.HeadHook1
import HandS.HeadHook2
import HandS.HeadWalk
import PySem.Challenge.RW_shellways_k19_loops_and_calls_case_by_ca
set_option Elab.async false
set_option linter.all false
set_option maxRecDepth 100000
set_option maxHeartbeats 4000000
namespace Dn
open PySem L2

/-! ### data -/
inductive Va where
  | non | bl (b : Bool) | int (i : Int) | str (s : List Nat) | tup (xs : List Va) | lst (xs : List Va) | ref (n : Nat)
  deriving Inhabited

/-- a key: an int, a text, a tuple of such -/
inductive Ky where
  | k (x : Sum Int (List Nat)) | t (xs : List (Sum Int (List Nat)))
  deriving DecidableEq

inductive Ob where
  | lst (xs : List Va) | dic (kvs : List (Sum Int (List Nat) × Va)) | dit (kvs : List (List (Sum Int (List Nat)) × Va)) | ins (c : Nat) (fs : List (Nat × Va))
  deriving Inhabited

abbrev Mem := List Ob
abbrev Env := List (Option Va)

/-- an own class and its fields by numbers -/
structure Glo where
  K : PySem.W.Frag
  cls : Nat → Addr
  fld : Nat → Str
  fldI : ∀ a b, fld a = fld b → a = b
  fad : Nat → Addr
  fdt : Nat → FuncData
  xfl : Nat → Nat
  ncl : Nat

def kyS : Sum Int (List Nat) → Key
  | .inl i => .inl i
  | .inr s => .inr ⟨s.toArray⟩

/-- neither an object's place nor a place that is kept apart -/
def Out (ι γ : List Addr) (a : Addr) : Prop := a ∉ ι ∧ a ∉ γ
mutual
inductive RV (ι γ : List Addr) (H : Hp) : Va → V → Prop
  | non : RV ι γ H .non .non
  | bl (b : Bool) : RV ι γ H (.bl b) (.bl b)
  | int (i : Int) : RV ι γ H (.int i) (.int i)
  | str (s : List Nat) : RV ι γ H (.str s) (.str ⟨s.toArray⟩)
  | tup {a : Addr} {xs : List Va} {ys : List V} : Out ι γ a → H a = some (.tup ys) → RVs ι γ H xs ys → RV ι γ H (.tup xs) (.ref a)
  | lst {a : Addr} {xs : List Va} {ys : List V} : Out ι γ a → Rd H a (.lst ys) → RVs ι γ H xs ys → RV ι γ H (.lst xs) (.ref a)
  | ref {n : Nat} {a : Addr} : ι[n]? = some a → RV ι γ H (.ref n) (.ref a)
inductive RVs (ι γ : List Addr) (H : Hp) : List Va → List V → Prop
  | nil : RVs ι γ H [] []
  | cons {v : Va} {x : V} {vs : List Va} {xs : List V} : RV ι γ H v x → RVs ι γ H vs xs → RVs ι γ H (v :: vs) (x :: xs)
end

/-- from (ι, H) to (ι', H'): new objects at new places, all else but the objects at ι stays -/
structure Ext (ι : List Addr) (H : Hp) (ι' : List Addr) (H' : Hp) : Prop where
  pre : ∃ r, ι' = ι ++ r
  new : ∀ p ∈ ι', p ∉ ι → H p = none
  keep : ∀ a o, a ∉ ι → H a = some o → H' a = some o

theorem Ext.refl (ι : List Addr) (H : Hp) : Ext ι H ι H := ⟨⟨[], by simp⟩, fun p h n => absurd h n, fun _ _ _ h => h⟩
theorem Ext.trans {ι ι1 ι2 : List Addr} {H H1 H2 : Hp} (a : Ext ι H ι1 H1) (b : Ext ι1 H1 ι2 H2) : Ext ι H ι2 H2 := by
  refine ⟨?_, fun p hp hn => ?_, fun x o hx ho => ?_⟩
  · obtain ⟨r, e⟩ := a.pre
    obtain ⟨t, e'⟩ := b.pre
    exact ⟨r ++ t, by rw [e', e, List.append_assoc]⟩
  · by_cases h1 : p ∈ ι1
    · exact a.new p h1 hn
    · have h2 := b.new p hp h1
      cases q : H p with
      | none => rfl
      | some o => rw [a.keep p o hn q] at h2; cases h2
  · refine b.keep x o (fun h1 => ?_) (a.keep x o hx ho)
    rw [a.new x h1 hx] at ho; cases ho
theorem Ext.notin {ι ι' : List Addr} {H H' : Hp} (e : Ext ι H ι' H') {a : Addr} {o : HO} (hn : a ∉ ι) (h : H a = some o) : a ∉ ι' := fun q => by
  rw [e.new a q hn] at h; cases h
theorem Ext.ix {ι ι' : List Addr} {H H' : Hp} (e : Ext ι H ι' H') {n : Nat} {a : Addr} (h : ι[n]? = some a) : ι'[n]? = some a := by
  obtain ⟨r, q⟩ := e.pre
  rw [q]
  rw [List.getElem?_append_left (List.getElem?_eq_some_iff.mp h).1]; exact h
mutual
theorem RV.mono {ι ι' γ : List Addr} {H H' : Hp} (e : Ext ι H ι' H') : ∀ {v : Va} {x : V}, RV ι γ H v x → RV ι' γ H' v x
  | _, _, .non => .non
  | _, _, .bl b => .bl b
  | _, _, .int i => .int i
  | _, _, .str s => .str s
  | _, _, .tup n h r => .tup ⟨e.notin n.1 h, n.2⟩ (e.keep _ _ n.1 h) (RVs.mono e r)
  | _, _, .lst n h r => by
    rcases h with h | ⟨o, h⟩
    · exact .lst ⟨e.notin n.1 h, n.2⟩ (.inl (e.keep _ _ n.1 h)) (RVs.mono e r)
    · exact .lst ⟨e.notin n.1 h, n.2⟩ (.inr ⟨o, e.keep _ _ n.1 h⟩) (RVs.mono e r)
  | _, _, .ref h => .ref (e.ix h)
theorem RVs.mono {ι ι' γ : List Addr} {H H' : Hp} (e : Ext ι H ι' H') : ∀ {vs : List Va} {xs : List V}, RVs ι γ H vs xs → RVs ι' γ H' vs xs
  | _, _, .nil => .nil
  | _, _, .cons h r => .cons (RV.mono e h) (RVs.mono e r)
end

/-! from one set of places kept apart to another -/
def Gr (γ : List Addr) (H : Hp) (γ' : List Addr) : Prop := ∀ g ∈ γ', g ∈ γ ∨ H g = none
theorem Gr.refl (γ : List Addr) (H : Hp) : Gr γ H γ := fun _ h => .inl h
theorem Gr.out {ι ι' γ γ' : List Addr} {H H' : Hp} {a : Addr} {o : HO} (g : Gr γ H γ') (e : Ext ι H ι' H') (n : Out ι γ a) (h : H a = some o) : Out ι' γ' a :=
  ⟨e.notin n.1 h, fun q => (g a q).elim n.2 fun z => by rw [h] at z; cases z⟩
mutual
theorem RV.move {ι ι' γ γ' : List Addr} {H H' : Hp} (e : Ext ι H ι' H') (g : Gr γ H γ') : ∀ {v : Va} {x : V}, RV ι γ H v x → RV ι' γ' H' v x
  | _, _, .non => .non
  | _, _, .bl b => .bl b
  | _, _, .int i => .int i
  | _, _, .str s => .str s
  | _, _, .tup n h r => .tup (g.out e n h) (e.keep _ _ n.1 h) (RVs.move e g r)
  | _, _, .lst n h r => by
    rcases h with h | ⟨o, h⟩
    · exact .lst (g.out e n h) (.inl (e.keep _ _ n.1 h)) (RVs.move e g r)
    · exact .lst (g.out e n h) (.inr ⟨o, e.keep _ _ n.1 h⟩) (RVs.move e g r)
  | _, _, .ref h => .ref (e.ix h)
theorem RVs.move {ι ι' γ γ' : List Addr} {H H' : Hp} (e : Ext ι H ι' H') (g : Gr γ H γ') : ∀ {vs : List Va} {xs : List V}, RVs ι γ H vs xs → RVs ι' γ' H' vs xs
  | _, _, .nil => .nil
  | _, _, .cons h r => .cons (RV.move e g h) (RVs.move e g r)
end
inductive RKV {κ κ' : Type} (f : κ → κ') (ι γ : List Addr) (H : Hp) : List (κ × Va) → List (κ' × V) → Prop
  | nil : RKV f ι γ H [] []
  | cons {k : κ} {v : Va} {x : V} {l : List (κ × Va)} {m : List (κ' × V)} : RV ι γ H v x → RKV f ι γ H l m → RKV f ι γ H ((k, v) :: l) ((f k, x) :: m)
theorem RKV.mono {κ κ' : Type} {f : κ → κ'} {ι ι' γ : List Addr} {H H' : Hp} (e : Ext ι H ι' H') : ∀ {l : List (κ × Va)} {m : List (κ' × V)}, RKV f ι γ H l m → RKV f ι' γ H' l m
  | _, _, .nil => .nil
  | _, _, .cons h r => .cons (h.mono e) (RKV.mono e r)
theorem RKV.length {κ κ' : Type} {f : κ → κ'} {ι γ : List Addr} {H : Hp} : ∀ {l : List (κ × Va)} {m : List (κ' × V)}, RKV f ι γ H l m → l.length = m.length
  | _, _, .nil => rfl
  | _, _, .cons _ r => by rw [List.length_cons, List.length_cons, r.length]
/-- what stands at a mutable object's place -/
def RO (G : Glo) (ι γ : List Addr) (H : Hp) (a : Addr) : Ob → Prop
  | .lst xs => ∃ ys, H a = some (.lst ys) ∧ RVs ι γ H xs ys
  | .dic kvs => ∃ m, H a = some (.dK m) ∧ RKV kyS ι γ H kvs m
  | .dit kvs => ∃ m, H a = some (.dT m) ∧ RKV (List.map kyS) ι γ H kvs m
  | .ins c fs => c < G.ncl ∧ ∃ dx gs, H a = some (.ins (G.cls c) dx gs) ∧ dx ∉ ι ∧ H dx = some (.own a) ∧ RKV G.fld ι γ H fs gs
structure RM (G : Glo) (ι γ : List Addr) (M : Mem) (H : Hp) : Prop where
  len : ι.length = M.length
  nd : ι.Nodup
  res : ∀ g ∈ γ, g ∉ ι ∧ ∃ o, H g = some o
  at_ : ∀ (n : Nat) (o : Ob) (a : Addr), M[n]? = some o → ι[n]? = some a → RO G ι γ H a o
structure RS (ι γ : List Addr) (H : Hp) (env : Env) (σ : L2.St) : Prop where
  len : env.length = σ.length
  at_ : ∀ (i : Nat) (v : Va), env[i]? = some (some v) → ∃ x, σ[i]? = some (some x) ∧ RV ι γ H v x
theorem RS.mono {ι ι' γ : List Addr} {H H' : Hp} {env : Env} {σ : L2.St} (r : RS ι γ H env σ) (e : Ext ι H ι' H') : RS ι' γ H' env σ :=
  ⟨r.len, fun i v h => let ⟨x, h1, h2⟩ := r.at_ i v h; ⟨x, h1, h2.mono e⟩⟩
theorem RS.set {ι γ : List Addr} {H : Hp} {env : Env} {σ : L2.St} (r : RS ι γ H env σ) {i : Nat} {v : Va} {x : V} (h : RV ι γ H v x) : RS ι γ H (env.set i (some v)) (σ.set i (some x)) := by
  refine ⟨by rw [List.length_set, List.length_set, r.len], fun j w hj => ?_⟩
  by_cases e : i = j
  · subst e
    by_cases hl : i < env.length
    · rw [List.getElem?_set_self hl] at hj
      cases hj
      exact ⟨x, List.getElem?_set_self (by rw [← r.len]; exact hl), h⟩
    · rw [List.getElem?_eq_none (by simpa using hl)] at hj; cases hj
  · rw [List.getElem?_set_ne e] at hj ⊢
    exact r.at_ j w hj
theorem RS.clear {ι γ : List Addr} {H : Hp} {env : Env} {σ : L2.St} (r : RS ι γ H env σ) (i : Nat) : RS ι γ H (env.set i none) (σ.set i none) := by
  refine ⟨by rw [List.length_set, List.length_set, r.len], fun j w hj => ?_⟩
  by_cases e : i = j
  · subst e
    by_cases hl : i < env.length
    · rw [List.getElem?_set_self hl] at hj; cases hj
    · rw [List.getElem?_eq_none (by simpa using hl)] at hj; cases hj
  · rw [List.getElem?_set_ne e] at hj ⊢
    exact r.at_ j w hj

theorem RVs.length {ι γ : List Addr} {H : Hp} : ∀ {vs : List Va} {xs : List V}, RVs ι γ H vs xs → vs.length = xs.length
  | _, _, .nil => rfl
  | _, _, .cons _ r => by rw [List.length_cons, List.length_cons, r.length]
theorem RVs.get {ι γ : List Addr} {H : Hp} : ∀ {vs : List Va} {xs : List V} {i : Nat} {v : Va}, RVs ι γ H vs xs → vs[i]? = some v → ∃ x, xs[i]? = some x ∧ RV ι γ H v x
  | _, _, i, v, .nil, h => by simp at h
  | _, _, 0, v, .cons h r, e => by simp at e; subst e; exact ⟨_, rfl, h⟩
  | _, _, i + 1, v, .cons h r, e => by
    obtain ⟨x, h1, h2⟩ := RVs.get (i := i) r (by simpa using e)
    exact ⟨x, by simpa using h1, h2⟩
theorem RVs.append {ι γ : List Addr} {H : Hp} : ∀ {vs ws : List Va} {xs ys : List V}, RVs ι γ H vs xs → RVs ι γ H ws ys → RVs ι γ H (vs ++ ws) (xs ++ ys)
  | _, _, _, _, .nil, s => s
  | _, _, _, _, .cons h r, s => .cons h (RVs.append r s)
theorem RVs.drop {ι γ : List Addr} {H : Hp} : ∀ {vs : List Va} {xs : List V} (n : Nat), RVs ι γ H vs xs → RVs ι γ H (vs.drop n) (xs.drop n)
  | _, _, 0, r => r
  | _, _, _ + 1, .nil => .nil
  | _, _, n + 1, .cons _ r => RVs.drop n r
theorem RVs.take {ι γ : List Addr} {H : Hp} : ∀ {vs : List Va} {xs : List V} (n : Nat), RVs ι γ H vs xs → RVs ι γ H (vs.take n) (xs.take n)
  | _, _, 0, _ => .nil
  | _, _, _ + 1, .nil => .nil
  | _, _, n + 1, .cons h r => .cons h (RVs.take n r)
theorem RVs.set {ι γ : List Addr} {H : Hp} {v : Va} {x : V} (h : RV ι γ H v x) : ∀ {vs : List Va} {xs : List V} (i : Nat), RVs ι γ H vs xs → RVs ι γ H (vs.set i v) (xs.set i x)
  | _, _, _, .nil => .nil
  | _, _, 0, .cons _ r => .cons h r
  | _, _, i + 1, .cons q r => .cons q (RVs.set h i r)
theorem RVs.dropLast {ι γ : List Addr} {H : Hp} {vs : List Va} {xs : List V} (r : RVs ι γ H vs xs) : RVs ι γ H vs.dropLast xs.dropLast := by
  rw [List.dropLast_eq_take, List.dropLast_eq_take, r.length]
  exact r.take _
theorem RVs.rep {ι γ : List Addr} {H : Hp} {vs : List Va} {xs : List V} (r : RVs ι γ H vs xs) : ∀ k : Nat, RVs ι γ H (List.replicate k vs).flatten (List.replicate k xs).flatten
  | 0 => .nil
  | k + 1 => by
    rw [List.replicate_succ, List.replicate_succ, List.flatten_cons, List.flatten_cons]
    exact r.append (r.rep k)
theorem RVs.reverse {ι γ : List Addr} {H : Hp} : ∀ {vs : List Va} {xs : List V}, RVs ι γ H vs xs → RVs ι γ H vs.reverse xs.reverse
  | _, _, .nil => .nil
  | _, _, .cons h r => by
    rw [List.reverse_cons, List.reverse_cons]
    exact r.reverse.append (.cons h .nil)

/-! ### steps of the pair (ι, H) -/
/-- a new object that is a value -/
theorem Ext.val {ι : List Addr} {H : Hp} {p : Addr} {o : HO} (h : H p = none) : Ext ι H ι (upd H p o) :=
  ⟨⟨[], by simp⟩, fun q a n => absurd a n, fun a u _ e => by rw [upd_ne (ne_of_none e h)]; exact e⟩
/-- a new mutable object -/
theorem Ext.obj {ι : List Addr} {H : Hp} {p : Addr} {o : HO} (h : H p = none) : Ext ι H (ι ++ [p]) (upd H p o) := by
  refine ⟨⟨[p], rfl⟩, fun q a n => ?_, fun a u _ e => by rw [upd_ne (ne_of_none e h)]; exact e⟩
  rcases List.mem_append.mp a with a | a
  · exact absurd a n
  · rw [List.mem_singleton.mp a]; exact h
/-- a mutable object changed -/
theorem Ext.mut {ι : List Addr} {H : Hp} {n : Nat} {a : Addr} {o : HO} (h : ι[n]? = some a) : Ext ι H ι (upd H a o) := by
  refine ⟨⟨[], by simp⟩, fun q a n => absurd a n, fun b u hb e => ?_⟩
  have nb : b ≠ a := fun z => hb (by rw [z]; exact List.mem_of_getElem? h)
  rw [upd_ne nb]
  exact e
theorem RO.mono {G : Glo} {ι ι' γ : List Addr} {H H' : Hp} {a : Addr} (e : Ext ι H ι' H') (h : H' a = H a) : ∀ {o : Ob}, RO G ι γ H a o → RO G ι' γ H' a o
  | .lst xs, ⟨ys, q, r⟩ => ⟨ys, h.trans q, r.mono e⟩
  | .dic kvs, ⟨ys, q, r⟩ => ⟨ys, h.trans q, r.mono e⟩
  | .dit kvs, ⟨ys, q, r⟩ => ⟨ys, h.trans q, r.mono e⟩
  | .ins c fs, ⟨lc, dx, gs, q, n, w, r⟩ => ⟨lc, dx, gs, h.trans q, e.notin n w, e.keep _ _ n w, r.mono e⟩
theorem RO.there {G : Glo} {ι γ : List Addr} {H : Hp} {a : Addr} : ∀ {o : Ob}, RO G ι γ H a o → ∃ u, H a = some u
  | .lst xs, ⟨ys, q, r⟩ => ⟨_, q⟩
  | .dic kvs, ⟨ys, q, r⟩ => ⟨_, q⟩
  | .dit kvs, ⟨ys, q, r⟩ => ⟨_, q⟩
  | .ins c fs, ⟨_, dx, gs, q, _⟩ => ⟨_, q⟩
section
variable {G : Glo} {ι γ : List Addr} {M : Mem} {H : Hp}
theorem RM.there (R : RM G ι γ M H) {a : Addr} (h : a ∈ ι) : ∃ u, H a = some u := by
  obtain ⟨n, e⟩ := List.mem_iff_getElem?.mp h
  have hl : n < M.length := by rw [← R.len]; exact (List.getElem?_eq_some_iff.mp e).1
  exact (R.at_ n M[n] a (List.getElem?_eq_getElem hl) e).there
theorem RM.freshI (R : RM G ι γ M H) {p : Addr} (h : H p = none) : p ∉ ι := fun q => by
  obtain ⟨u, e⟩ := R.there q
  rw [h] at e; cases e
theorem RM.fresh (R : RM G ι γ M H) {p : Addr} (h : H p = none) : Out ι γ p := ⟨R.freshI h, fun q => by
  obtain ⟨_, u, e⟩ := R.res p q
  rw [h] at e; cases e⟩
theorem RM.get (R : RM G ι γ M H) {n : Nat} {o : Ob} (h : M[n]? = some o) : ∃ a, ι[n]? = some a ∧ RO G ι γ H a o := by
  have hl : n < ι.length := by rw [R.len]; exact (List.getElem?_eq_some_iff.mp h).1
  exact ⟨ι[n], List.getElem?_eq_getElem hl, R.at_ n o _ h (List.getElem?_eq_getElem hl)⟩
theorem RM.val (R : RM G ι γ M H) {p : Addr} {o : HO} (h : H p = none) : RM G ι γ M (upd H p o) :=
  ⟨R.len, R.nd, fun g hg => let ⟨n, u, e⟩ := R.res g hg; ⟨n, u, by rw [upd_ne (ne_of_none e h)]; exact e⟩,
    fun n ob a e1 e2 => (R.at_ n ob a e1 e2).mono (Ext.val h) (upd_ne fun q => R.freshI h (q ▸ List.mem_of_getElem? e2))⟩
theorem RM.obj (R : RM G ι γ M H) {p : Addr} {o : HO} {ob : Ob} (h : H p = none) (new : RO G (ι ++ [p]) γ (upd H p o) p ob) : RM G (ι ++ [p]) γ (M ++ [ob]) (upd H p o) := by
  refine ⟨by rw [List.length_append, List.length_append, R.len]; rfl, ?_, fun g hg => ?_, fun n o' a e1 e2 => ?_⟩
  · rw [List.nodup_append]
    refine ⟨R.nd, List.nodup_cons.mpr ⟨by simp, List.nodup_nil⟩, fun a ha b hb e => ?_⟩
    rw [List.mem_singleton.mp hb] at e
    exact R.freshI h (e ▸ ha)
  · obtain ⟨n, u, e⟩ := R.res g hg
    have ne : g ≠ p := ne_of_none e h
    exact ⟨fun q => (List.mem_append.mp q).elim n fun q => ne (List.mem_singleton.mp q), u, by rw [upd_ne ne]; exact e⟩
  · by_cases hn : n < M.length
    · rw [List.getElem?_append_left hn] at e1
      rw [List.getElem?_append_left (by rw [R.len]; exact hn)] at e2
      exact (R.at_ n o' a e1 e2).mono (Ext.obj h) (upd_ne fun q => R.freshI h (q ▸ List.mem_of_getElem? e2))
    · have hl := (List.getElem?_eq_some_iff.mp e1).1
      rw [List.length_append, List.length_singleton] at hl
      have hn' : n = M.length := by omega
      subst hn'
      rw [List.getElem?_append_right (Nat.le_refl _), Nat.sub_self] at e1
      rw [List.getElem?_append_right (by rw [R.len]; exact Nat.le_refl _), R.len, Nat.sub_self] at e2
      cases e1; cases e2
      exact new
theorem RM.mut (R : RM G ι γ M H) {n : Nat} {a : Addr} {o : HO} {ob : Ob} (h : ι[n]? = some a) (new : RO G ι γ (upd H a o) a ob) : RM G ι γ (M.set n ob) (upd H a o) := by
  refine ⟨by rw [List.length_set]; exact R.len, R.nd, fun g hg => ?_, fun m o' b e1 e2 => ?_⟩
  · obtain ⟨n, u, e⟩ := R.res g hg
    have ne : g ≠ a := fun z => n (by rw [z]; exact List.mem_of_getElem? h)
    exact ⟨n, u, by rw [upd_ne ne]; exact e⟩
  by_cases e : n = m
  · subst e
    rw [h] at e2; cases e2
    rw [List.getElem?_set_self (by rw [← R.len]; exact (List.getElem?_eq_some_iff.mp h).1)] at e1
    cases e1
    exact new
  · rw [List.getElem?_set_ne e] at e1
    refine (R.at_ m o' b e1 e2).mono (Ext.mut h) (upd_ne fun q => e ?_)
    subst q
    obtain ⟨h1, q1⟩ := List.getElem?_eq_some_iff.mp h
    obtain ⟨h2, q2⟩ := List.getElem?_eq_some_iff.mp e2
    exact (List.getElem_inj R.nd).mp (q1.trans q2.symm)
/-! a place kept apart: D is new; later it is changed, then let go -/
mutual
theorem RV.weak {γ' : List Addr} (h : ∀ a ∈ γ', a ∈ γ) : ∀ {v : Va} {x : V}, RV ι γ H v x → RV ι γ' H v x
  | _, _, .non => .non
  | _, _, .bl b => .bl b
  | _, _, .int i => .int i
  | _, _, .str s => .str s
  | _, _, .tup n e r => .tup ⟨n.1, fun q => n.2 (h _ q)⟩ e (RVs.weak h r)
  | _, _, .lst n e r => .lst ⟨n.1, fun q => n.2 (h _ q)⟩ e (RVs.weak h r)
  | _, _, .ref e => .ref e
theorem RVs.weak {γ' : List Addr} (h : ∀ a ∈ γ', a ∈ γ) : ∀ {vs : List Va} {xs : List V}, RVs ι γ H vs xs → RVs ι γ' H vs xs
  | _, _, .nil => .nil
  | _, _, .cons e r => .cons (RV.weak h e) (RVs.weak h r)
end
theorem RKV.weak {κ κ' : Type} {f : κ → κ'} {γ' : List Addr} (h : ∀ a ∈ γ', a ∈ γ) : ∀ {l : List (κ × Va)} {m : List (κ' × V)}, RKV f ι γ H l m → RKV f ι γ' H l m
  | _, _, .nil => .nil
  | _, _, .cons e r => .cons (e.weak h) (RKV.weak h r)
theorem RO.weak {γ' : List Addr} (h : ∀ a ∈ γ', a ∈ γ) {a : Addr} : ∀ {o : Ob}, RO G ι γ H a o → RO G ι γ' H a o
  | .lst xs, ⟨ys, q, r⟩ => ⟨ys, q, r.weak h⟩
  | .dic kvs, ⟨ys, q, r⟩ => ⟨ys, q, r.weak h⟩
  | .dit kvs, ⟨ys, q, r⟩ => ⟨ys, q, r.weak h⟩
  | .ins c fs, ⟨lc, dx, gs, q, n, w, r⟩ => ⟨lc, dx, gs, q, n, w, r.weak h⟩
theorem RM.weak {γ' : List Addr} (h : ∀ a ∈ γ', a ∈ γ) (R : RM G ι γ M H) : RM G ι γ' M H :=
  ⟨R.len, R.nd, fun g hg => R.res g (h g hg), fun n o a e1 e2 => (R.at_ n o a e1 e2).weak h⟩
theorem RS.weak {γ' : List Addr} (h : ∀ a ∈ γ', a ∈ γ) {env : Env} {σ : L2.St} (r : RS ι γ H env σ) : RS ι γ' H env σ :=
  ⟨r.len, fun i v e => let ⟨x, h1, h2⟩ := r.at_ i v e; ⟨x, h1, h2.weak h⟩⟩
/-! a new place kept apart -/
mutual
theorem RV.apart {D : Addr} {o : HO} (hD : H D = none) : ∀ {v : Va} {x : V}, RV ι γ H v x → RV ι (D :: γ) (upd H D o) v x
  | _, _, .non => .non
  | _, _, .bl b => .bl b
  | _, _, .int i => .int i
  | _, _, .str s => .str s
  | _, _, .tup n e r => .tup ⟨n.1, fun q => (List.mem_cons.mp q).elim (ne_of_none e hD) n.2⟩ (by rw [upd_ne (ne_of_none e hD)]; exact e) (RVs.apart hD r)
  | _, _, .lst n e r => by
    rcases e with e | ⟨u, e⟩
    · exact .lst ⟨n.1, fun q => (List.mem_cons.mp q).elim (ne_of_none e hD) n.2⟩ (.inl (by rw [upd_ne (ne_of_none e hD)]; exact e)) (RVs.apart hD r)
    · exact .lst ⟨n.1, fun q => (List.mem_cons.mp q).elim (ne_of_none e hD) n.2⟩ (.inr ⟨u, by rw [upd_ne (ne_of_none e hD)]; exact e⟩) (RVs.apart hD r)
  | _, _, .ref e => .ref e
theorem RVs.apart {D : Addr} {o : HO} (hD : H D = none) : ∀ {vs : List Va} {xs : List V}, RVs ι γ H vs xs → RVs ι (D :: γ) (upd H D o) vs xs
  | _, _, .nil => .nil
  | _, _, .cons e r => .cons (RV.apart hD e) (RVs.apart hD r)
end
theorem RKV.apart {κ κ' : Type} {f : κ → κ'} {D : Addr} {o : HO} (hD : H D = none) : ∀ {l : List (κ × Va)} {m : List (κ' × V)}, RKV f ι γ H l m → RKV f ι (D :: γ) (upd H D o) l m
  | _, _, .nil => .nil
  | _, _, .cons e r => .cons (e.apart hD) (RKV.apart hD r)
theorem RO.apart {D : Addr} {o : HO} (hD : H D = none) {a : Addr} : ∀ {ob : Ob}, RO G ι γ H a ob → RO G ι (D :: γ) (upd H D o) a ob
  | .lst xs, ⟨ys, q, r⟩ => ⟨ys, by rw [upd_ne (ne_of_none q hD)]; exact q, r.apart hD⟩
  | .dic kvs, ⟨ys, q, r⟩ => ⟨ys, by rw [upd_ne (ne_of_none q hD)]; exact q, r.apart hD⟩
  | .dit kvs, ⟨ys, q, r⟩ => ⟨ys, by rw [upd_ne (ne_of_none q hD)]; exact q, r.apart hD⟩
  | .ins c fs, ⟨lc, dx, gs, q, n, w, r⟩ => ⟨lc, dx, gs, by rw [upd_ne (ne_of_none q hD)]; exact q, n, by rw [upd_ne (ne_of_none w hD)]; exact w, r.apart hD⟩
theorem RM.apart {D : Addr} {o : HO} (hD : H D = none) (R : RM G ι γ M H) : RM G ι (D :: γ) M (upd H D o) := by
  refine ⟨R.len, R.nd, fun g hg => ?_, fun n ob a e1 e2 => (R.at_ n ob a e1 e2).apart hD⟩
  rcases List.mem_cons.mp hg with e | hg
  · rw [e]; exact ⟨R.freshI hD, o, upd_same⟩
  · obtain ⟨n, u, e⟩ := R.res g hg
    exact ⟨n, u, by rw [upd_ne (ne_of_none e hD)]; exact e⟩
theorem RS.apart {D : Addr} {o : HO} (hD : H D = none) {env : Env} {σ : L2.St} (r : RS ι γ H env σ) : RS ι (D :: γ) (upd H D o) env σ :=
  ⟨r.len, fun i v e => let ⟨x, h1, h2⟩ := r.at_ i v e; ⟨x, h1, h2.apart hD⟩⟩
/-! what is kept apart is changed -/
theorem Out.ne {ι γ : List Addr} {a D : Addr} (n : Out ι γ a) (h : D ∈ γ) : a ≠ D := fun z => n.2 (by rw [z]; exact h)
mutual
theorem RV.stir {D : Addr} {o : HO} (hD : D ∈ γ) : ∀ {v : Va} {x : V}, RV ι γ H v x → RV ι γ (upd H D o) v x
  | _, _, .non => .non
  | _, _, .bl b => .bl b
  | _, _, .int i => .int i
  | _, _, .str s => .str s
  | _, _, .tup n e r => .tup n (by rw [upd_ne (n.ne hD)]; exact e) (RVs.stir hD r)
  | _, _, .lst n e r => by
    have ne := n.ne hD
    rcases e with e | ⟨u, e⟩
    · exact .lst n (.inl (by rw [upd_ne ne]; exact e)) (RVs.stir hD r)
    · exact .lst n (.inr ⟨u, by rw [upd_ne ne]; exact e⟩) (RVs.stir hD r)
  | _, _, .ref e => .ref e
theorem RVs.stir {D : Addr} {o : HO} (hD : D ∈ γ) : ∀ {vs : List Va} {xs : List V}, RVs ι γ H vs xs → RVs ι γ (upd H D o) vs xs
  | _, _, .nil => .nil
  | _, _, .cons e r => .cons (RV.stir hD e) (RVs.stir hD r)
end
theorem RKV.stir {κ κ' : Type} {f : κ → κ'} {D : Addr} {o : HO} (hD : D ∈ γ) : ∀ {l : List (κ × Va)} {m : List (κ' × V)}, RKV f ι γ H l m → RKV f ι γ (upd H D o) l m
  | _, _, .nil => .nil
  | _, _, .cons e r => .cons (e.stir hD) (RKV.stir hD r)
theorem RO.stir {D : Addr} {o : HO} (hD : D ∈ γ) {a : Addr} (na : a ≠ D) (hown : ∀ x, H D ≠ some (.own x)) : ∀ {ob : Ob}, RO G ι γ H a ob → RO G ι γ (upd H D o) a ob
  | .lst xs, ⟨ys, q, r⟩ => ⟨ys, by rw [upd_ne na]; exact q, r.stir hD⟩
  | .dic kvs, ⟨ys, q, r⟩ => ⟨ys, by rw [upd_ne na]; exact q, r.stir hD⟩
  | .dit kvs, ⟨ys, q, r⟩ => ⟨ys, by rw [upd_ne na]; exact q, r.stir hD⟩
  | .ins c fs, ⟨lc, dx, gs, q, n, w, r⟩ => ⟨lc, dx, gs, by rw [upd_ne na]; exact q, n, by rw [upd_ne (show dx ≠ D from fun z => hown a (by rw [← z]; exact w))]; exact w, r.stir hD⟩
theorem RM.stir {D : Addr} {o : HO} (hD : D ∈ γ) (hown : ∀ x, H D ≠ some (.own x)) (R : RM G ι γ M H) : RM G ι γ M (upd H D o) := by
  refine ⟨R.len, R.nd, fun g hg => ?_, fun n ob a e1 e2 => (R.at_ n ob a e1 e2).stir hD (fun z => (R.res D hD).1 (z ▸ List.mem_of_getElem? e2)) hown⟩
  obtain ⟨n, u, e⟩ := R.res g hg
  by_cases z : g = D
  · exact ⟨n, o, by rw [z]; exact upd_same⟩
  · exact ⟨n, u, by rw [upd_ne z]; exact e⟩
theorem RS.stir {D : Addr} {o : HO} (hD : D ∈ γ) {env : Env} {σ : L2.St} (r : RS ι γ H env σ) : RS ι γ (upd H D o) env σ :=
  ⟨r.len, fun i v e => let ⟨x, h1, h2⟩ := r.at_ i v e; ⟨x, h1, h2.stir hD⟩⟩
/-! a list that was kept apart becomes an object -/
theorem Out.adopt {D a : Addr} (n : Out ι (D :: γ) a) : Out (ι ++ [D]) γ a :=
  ⟨fun q => (List.mem_append.mp q).elim n.1 fun q => n.2 (by rw [List.mem_singleton.mp q]; exact List.mem_cons_self), fun q => n.2 (List.mem_cons_of_mem _ q)⟩
mutual
theorem RV.adopt {D : Addr} : ∀ {v : Va} {x : V}, RV ι (D :: γ) H v x → RV (ι ++ [D]) γ H v x
  | _, _, .non => .non
  | _, _, .bl b => .bl b
  | _, _, .int i => .int i
  | _, _, .str s => .str s
  | _, _, .tup n e r => .tup n.adopt e (RVs.adopt r)
  | _, _, .lst n e r => .lst n.adopt e (RVs.adopt r)
  | _, _, .ref e => .ref (by rw [List.getElem?_append_left (List.getElem?_eq_some_iff.mp e).1]; exact e)
theorem RVs.adopt {D : Addr} : ∀ {vs : List Va} {xs : List V}, RVs ι (D :: γ) H vs xs → RVs (ι ++ [D]) γ H vs xs
  | _, _, .nil => .nil
  | _, _, .cons e r => .cons (RV.adopt e) (RVs.adopt r)
end
theorem RKV.adopt {κ κ' : Type} {f : κ → κ'} {D : Addr} : ∀ {l : List (κ × Va)} {m : List (κ' × V)}, RKV f ι (D :: γ) H l m → RKV f (ι ++ [D]) γ H l m
  | _, _, .nil => .nil
  | _, _, .cons e r => .cons e.adopt (RKV.adopt r)
theorem RO.adopt {D : Addr} {a : Addr} (hown : ∀ x, H D ≠ some (.own x)) : ∀ {ob : Ob}, RO G ι (D :: γ) H a ob → RO G (ι ++ [D]) γ H a ob
  | .lst xs, ⟨ys, q, r⟩ => ⟨ys, q, r.adopt⟩
  | .dic kvs, ⟨ys, q, r⟩ => ⟨ys, q, r.adopt⟩
  | .dit kvs, ⟨ys, q, r⟩ => ⟨ys, q, r.adopt⟩
  | .ins c fs, ⟨lc, dx, gs, q, n, w, r⟩ => ⟨lc, dx, gs, q, fun z => (List.mem_append.mp z).elim n fun z => hown a (by rw [← List.mem_singleton.mp z]; exact w), w, r.adopt⟩
theorem RM.adopt {D : Addr} {ob : Ob} (hD : D ∉ γ) (hown : ∀ x, H D ≠ some (.own x)) (R : RM G ι (D :: γ) M H) (new : RO G (ι ++ [D]) γ H D ob) : RM G (ι ++ [D]) γ (M ++ [ob]) H := by
  have nD : D ∉ ι := (R.res D List.mem_cons_self).1
  refine ⟨by rw [List.length_append, List.length_append, R.len]; rfl, ?_, fun g hg => ?_, fun n o' a e1 e2 => ?_⟩
  · rw [List.nodup_append]
    refine ⟨R.nd, List.nodup_cons.mpr ⟨by simp, List.nodup_nil⟩, fun a ha b hb e => ?_⟩
    rw [List.mem_singleton.mp hb] at e
    exact nD (e ▸ ha)
  · obtain ⟨n, u, q⟩ := R.res g (List.mem_cons_of_mem _ hg)
    exact ⟨fun z => (List.mem_append.mp z).elim n fun z => hD (List.mem_singleton.mp z ▸ hg), u, q⟩
  · by_cases hn : n < M.length
    · rw [List.getElem?_append_left hn] at e1
      rw [List.getElem?_append_left (by rw [R.len]; exact hn)] at e2
      exact (R.at_ n o' a e1 e2).adopt hown
    · have hl := (List.getElem?_eq_some_iff.mp e1).1
      rw [List.length_append, List.length_singleton] at hl
      have hn' : n = M.length := by omega
      subst hn'
      rw [List.getElem?_append_right (Nat.le_refl _), Nat.sub_self] at e1
      rw [List.getElem?_append_right (by rw [R.len]; exact Nat.le_refl _), R.len, Nat.sub_self] at e2
      cases e1; cases e2
      exact new
end
end Dn
namespace Dn
open PySem PySem.Spec L2 PyProof.Rows
/-! ### o.f as a target -/
section
variable {X : Cx}
def gFld (K : PySem.W.Frag) (to : TE) (f : Str) : TG := fun v σ H Q => to σ H fun x H1 => ∃ a C dx fs, x = .ref a ∧ H1 a = some (.ins C dx fs) ∧ Cls K C ∧ NoAttr K C f ∧ fs.length < 1000 ∧ Q σ (upd H1 a (.ins C dx (putF f v fs)))
theorem pg_fld {o : Expr} {f : Str} {pos : Pos} {to : TE} (ho : PE X o to) : PG X (.Attribute o f pos) (gFld X.K to f) := by
  refine ⟨fun pins s σ H v u Q I r h => ?_⟩
  rw [arm_assign_Attribute]
  refine wpAny_bind (wpAny_holding (thn (ho.run pins s σ H _ I h) fun ov s1 hq => ?_))
  obtain ⟨x, H1, I1, rx, a, C, dx, fs, ex, ea, c, n, l, q⟩ := hq
  subst ex
  obtain rfl : ov = Value.ref a := rx
  refine wpAny_bind (wpAny_standAt (wpAny_bind (wpAny_holding (setattr_ok I1 ea c n l r fun s2 I2 => ?_))))
  exact wpAny_release ⟨σ, _, I2, q⟩
end
/-! ### del xs[lo:] -/
def selU (start stop step : Int) (i : Nat) : Bool := if step > 0 then start ≤ i && i < stop && (i - start) % step == 0 else stop < i && i ≤ start && (start - i) % (-step) == 0
theorem sel_from (lo n k : Nat) (h : k < n) : selU (lo : Int) (n : Int) 1 k = decide (lo ≤ k) := by
  have hk : (k : Int) < n := by omega
  have h1 : ((k : Int) - lo) % 1 = 0 := Int.emod_one _
  by_cases hl : lo ≤ k
  · have hl' : (lo : Int) ≤ k := by omega
    simp [selU, hk, h1, hl, hl']
  · have hl' : ¬ (lo : Int) ≤ k := by omega
    simp [selU, hl, hl']
theorem keep_from (lo n : Nat) : ∀ (xs : List Value) (k : Nat), k + xs.length = n → (xs.zipIdx k).filterMap (fun (p : Value × Nat) => if selU (lo : Int) (n : Int) 1 p.2 = true then none else some p.1) = xs.take (lo - k)
  | [], k, _ => by simp
  | x :: xs, k, h => by
    rw [List.length_cons] at h
    rw [List.zipIdx_cons, List.filterMap_cons, keep_from lo n xs (k + 1) (by omega)]
    have e := sel_from lo n k (by omega)
    by_cases hl : lo ≤ k
    · rw [e, decide_eq_true hl]
      simp only [if_true]
      rw [show lo - k = 0 by omega, show lo - (k + 1) = 0 by omega]
      rfl
    · rw [e, decide_eq_false hl]
      simp only [Bool.false_eq_true, if_false]
      rw [show lo - k = (lo - (k + 1)) + 1 by omega, List.take_succ_cons]
theorem bounds_from {lo n : Nat} (h : lo ≤ n) : sliceBounds (some (lo : Int)) none none n = ((lo : Int), (n : Int), 1) := by
  simp only [sliceBounds, Option.getD_none]
  have h1 : ¬ ((lo : Int) < 0) := by omega
  simp only [h1, if_false, show (1 : Int) > 0 by decide, if_true]
  congr 1
  omega
section
variable {prog : Program} {w : World} {A : Around} {E : Value → Shared → Prop} {s : Shared}
theorem delItem_from {l sl : Addr} {items : List Value} {n lo : Nat} {vl : Value} {Q : Unit → Shared → Prop} (e : s.heap.get? l = some { cls := .type "list", data := .seq items.toArray n }) (hs : s.heap.IsSliceOf sl vl .none .none) (pl : IsPart vl (some (lo : Int)))
    (hlo : lo ≤ items.length) (hsz : items.length ≤ sizeLine) (h : Q () { s with heap := s.heap.update l (Obj.mapSeq fun xs => (xs.toList.zipIdx.filterMap fun (p : Value × Nat) => if selU (lo : Int) (items.length : Int) 1 p.2 = true then none else some p.1).toArray) }) :
    wpAny (model prog w) A (delItem (.ref l) (.ref sl)) Q E s := by
  have hT : s.TypeIs (.ref l) "list" := ⟨_, e, rfl⟩
  obtain ⟨os, hos, hcs, hds⟩ := id hs
  have hTs : s.TypeIs (.ref sl) "slice" := ⟨os, hos, hcs⟩
  refine wpAny_delItem_slot hT (by decide) F.slot_list_delitem (wpAny_call_entry F.slot_list_delitem hT F.entry_list_delitem ?_ (F.args_list_delitem_2 _ _))
  show wpAny _ _ (Builtin.List.listSubscript? (.ref sl) >>= _) _ _ s
  unfold Builtin.List.listSubscript?
  refine wpAny_bind (wpAny_bind (wpAny_specialOf hTs slice_no_index ?_))
  simp only [Option.isNone_none, if_true]
  refine wpAny_pure ?_
  show wpAny _ _ (typeOf (.ref sl) >>= _) _ _ s
  refine wpAny_bind (wpAny_typeOf hTs ?_)
  first
    | rw [if_neg (by decide)]
    | refine PySem.W.KFB.if_not (by decide) ?_
  rw [listSliceParts_eq]
  have hstep : ¬ ((rawPart none == rawInt 0) = true) := Bool.false_ne_true
  refine wpAny_bind (wpAny_bind (wpAny_field hos hds (x := .none) rfl (wpAny_bind (wpAny_listPart .none ?_))))
  rw [if_neg hstep]
  refine wpAny_bind (wpAny_field hos hds (x := vl) rfl (wpAny_bind (wpAny_listPart pl ?_)))
  refine wpAny_bind (wpAny_field hos hds (x := .none) rfl (wpAny_bind (wpAny_listPart .none (wpAny_pure ?_))))
  unfold Builtin.List.listItems
  refine wpAny_bind (wpAny_bind (wpAny_seqItems e rfl (wpAny_pure ?_)))
  refine wpAny_bind (wpAny_of_eq ((sliceIndices_raw (some (lo : Int)) none none items.toArray.size (by simp)).trans (congrArg (pure : Int × Int × Int → Sem (Int × Int × Int)) (bounds_from (by rw [List.size_toArray]; exact hlo)))) ?_)
  refine wpAny_bind (wpAny_rule ?_)
  show wpAny _ _ (updateSeq l (fun xs => (xs.toList.zipIdx.filterMap fun (p : Value × Nat) => if selU (lo : Int) (items.toArray.size : Int) 1 p.2 = true then none else some p.1).toArray) >>= _) _ _ s
  rw [List.size_toArray]
  have hz' : ((fun xs : Array Value => (xs.toList.zipIdx.filterMap fun (p : Value × Nat) => if selU (lo : Int) (items.length : Int) 1 p.2 = true then none else some p.1).toArray) items.toArray).size ≤ sizeLine + 1 := by
    show (items.toArray.toList.zipIdx.filterMap _).toArray.size ≤ _
    rw [List.size_toArray, List.toList_toArray, keep_from lo items.length items 0 (by omega), List.length_take]
    omega
  refine wpAny_bind (wpAny_updateSeq (hz := by rw [List.size_toArray]; omega) (_hz' := hz') e rfl ?_)
  refine wpAny_bind (wpAny_letGo ?_)
  first
    | exact wpAny_bind (wpAny_pure (wpAny_pure ⟨.none, rfl, h⟩))
    | exact wpAny_pure ⟨.none, rfl, h⟩
end
section
variable {X : Cx}
theorem del_from {pins : List (Addr × Obj)} {s : Shared} {σ : L2.St} {H : Hp} {l sl : Addr} {xs : List V} {lo : Nat} {vl : Value} {Q : Unit → Shared → Prop} (I : Inv X pins σ H s) (hH : H l = some (.lst xs)) (hs : s.heap.IsSliceOf sl vl .none .none) (pl : IsPart vl (some (lo : Int))) (hlo : lo ≤ xs.length)
    (h : ∀ s', Inv X pins σ (upd H l (.lst (xs.take lo))) s' → Q () s') : wpAny (model X.prog X.w) X.A (delItem (.ref l) (.ref sl)) Q X.xe s := by
  obtain ⟨z, its, n, r, hl, e⟩ := I.lstM hH
  refine delItem_from e hs pl (by omega) (by omega) (h _ ?_)
  refine I.lset (its' := its.take lo) (t' := s.toks) hH e ?_ (r.take lo) (by rw [List.length_take]; omega)
  show (its.toArray.toList.zipIdx.filterMap _).toArray = _
  rw [List.toList_toArray, keep_from lo its.length its 0 (by omega)]
  rfl
/-- del o[lo:] -/
def tDelF (to tl : TE) : TS := fun D σ H => to σ H fun x H1 => tl σ H1 fun y H2 => ∃ (l : Addr) (xs : List V) (lo : Nat), x = .ref l ∧ y = .int (lo : Int) ∧ H2 l = some (.lst xs) ∧ lo ≤ xs.length ∧ D.nx σ (upd H2 l (.lst (xs.take lo)))
theorem ps_delF {o e : Expr} {to tl : TE} {p2 tpos pos : Pos} (ho : PE X o to) (hl : PE X e tl) : PS X (.Delete [.Subscript o (.Slice (some e) none none p2) tpos] pos) (tDelF to tl) := by
  refine ⟨fun pins s σ H D I h => ?_⟩
  refine wpAny_Delete (wpAny_deleteEach_cons (wpAny_delete_Subscript (thn (ho.run pins s σ H _ I h) fun u s1 hq => ?_)))
  obtain ⟨x, H1, I1, rx, q1⟩ := hq
  refine wpAny_Slice ?_
  rw [evalPart_some, evalPart_none]
  refine thn (hl.run pins s1 σ H1 _ I1 q1) fun vl s2 hq2 => wpAny_pure (wpAny_pure ?_)
  obtain ⟨y, H2, I2, ry, l, xs, lo, ex, ey, hH, hlo, q2⟩ := hq2
  subst ex
  subst ey
  obtain rfl : u = Value.ref l := rx
  obtain ⟨t, rfl⟩ := (show ∃ t, vl = Value.int lo t from ry)
  have I4 : Inv X pins σ H2 { s2 with heap := s2.heap.push { cls := .type "slice", data := .fields #[.int lo t, .none, .none] } } := I2.kept (t' := s2.toks) fun b ob q => Heap.get?_push_of_some _ q
  exact del_from I4 hH (Heap.IsSliceOf.new ..) (.int _ _) hlo fun s3 I3 => wpAny_deleteEach_nil ⟨σ, _, I3, q2⟩
end
end Dn
namespace Dn
open PySem PySem.Spec L2 PyProof.Rows
/-! ### dict comprehensions, the keys ints, texts or tuples of them -/
theorem d_dictPut {X : Cx} {pins : List (Addr × Obj)} {σ : L2.St} {H H' : Hp} {s : Shared} {E : Value → Shared → Prop} {D : Addr} {y v : V} {u r : Value} {Q : Unit → Shared → Prop} (hu : X.A.units + 1 < cLine) (I : Inv X pins σ H s) (g : DPut H D y v H') (ry : RelV y u) (rv : RelV v r)
    (h : ∀ s', Inv X pins σ H' s' → Q () s') : wpAny (model X.prog X.w) X.A (dictSet D u r) Q E s := by
  rcases g with ⟨kvs, k, e, ey, hl, eH⟩ | ⟨kvs, k, b, e, ey, eb, hl, eH⟩
  · subst ey
    subst eH
    exact d_dictSet I e hl ry rv h
  · subst ey
    subst eH
    obtain rfl : u = Value.ref b := ry
    obtain ⟨z, hd, xs, rel, dd⟩ := dt_of I.hok e
    have hm : (putK kvs k v).length ≤ sizeLine := Nat.le_trans (length_putK kvs k v) hl
    have hr : (tupleKind (mixKind X.prog X.w)).room X.A := show X.A.units < cLine by omega
    refine wpAny_dictSet_heap (hsz := by rw [← Paired.length rel]; exact z) hr (key_of I.hok eb) dd fun h' dd' hs => h _ ?_
    obtain ⟨q, es, ep, hq, h2, h3, h4, _, h5⟩ := dd'
    refine d_write I (by rw [e]; exact True.intro) hs ⟨q, hq⟩ ⟨hm, hd, _, (rel.put k eb rv).keeps fun c ys ec => ?_, q, es, ep, hq, h2, h3, h4, h5⟩
    rw [upd_ne (ne_of ec e (fun z => nomatch z))]
    exact ec
section
variable {X : Cx}
/-- {k: v for target in iter if ..}: D the new dict, at first O -/
def tDcG (O : HO) (wi : TI) (g : TG) (tt : TT) (tk tv : TE) (vs : List Nat) : TE := fun σ H Q => wi σ H fun J H1 => ∀ D, H1 D = none → ∃ W : Nat → Nat → Hp → Prop,
  (∃ m, W 0 m (upd H1 D O)) ∧ ∀ i m H, W i m H → (J.stop i H ∧ Q (.ref D) H) ∨ (J.go i H ∧ ∃ Nx : Hp → Prop, (∀ H', Nx H' → ∃ m', m' < m ∧ W (i + 1) m' H') ∧
    ∀ x H', J.yld i H x H' → g x (wipe σ vs) H' fun σ2 H2 => wipe σ2 vs = wipe σ vs ∧ tt σ2 H2 fun b H3 =>
      if b = true then tk σ2 H3 fun y H4 => tv σ2 H4 fun z H5 => ∃ H6, DPut H5 D y z H6 ∧ Nx H6 else Nx H3)
abbrev BlkA (X : Cx) (sc : Scope) (P : Cx → Prop) : Prop := ∀ (s : Shared) (H : Hp) (C : Addr) (cl : List (Str × Addr)) (fp : List Addr), P (X.blk s H sc (compEnvC sc cl C X.env) fp)
theorem dcG_core {O : HO} {pins : List (Addr × Obj)} {s : Shared} {σ : L2.St} {H : Hp} {Q : VK} {kx vx tg iter : Expr} {ifs : List Expr} {sc : Scope} {own : List (Str × Nat)} {pos pos' : Pos} {wi : TI} {g : TG} {tt : TT} {tk tv : TE} {use : Option (Value → Sem Unit)} {Qf : Value → Shared → Prop}
    (hO : ∀ (H : Hp) (h : Heap), sysModules < h.objs.size → ObjOk X.prog X.w H (h.push { cls := .type "dict", data := .dict #[] }) h.objs.size O)
    (hu : X.A.units + 64 < cLine) (hc : X.calm = true) (hN : X.N.Nodup) (I : Inv X pins σ H s) (hi : PI X tg iter wi) (ok : BlkOk X.N X.env.scope sc own)
    (hg : BlkA X sc fun Y => PG Y tg g) (ht : BlkA X sc fun Y => PTs Y ifs tt) (hk : BlkA X sc fun Y => PE Y kx tk) (hv : BlkA X sc fun Y => PE Y vx tv) (hs : ∀ x, foldedSetIterable iter X.env x = pure x)
    (h : tDcG O wi g tt tk tv (own.map (·.2)) σ H Q)
    (fin : ∀ D C s' m H', Inv X pins σ H' s' → Q (.ref D) H' → s'.heap.Ns C m → FpOk X pins H' C → compPost (model X.prog X.w) X.A X.xe use Qf (.ref D) C (.ok .next) s') :
    wpAny (model X.prog X.w) X.A (comprehension (.DictComp kx vx [⟨tg, iter, ifs, 0⟩] sc pos) sc X.env pos' newDict false (eval iter X.env) use) Qf X.xe s := by
  have cells : ∀ y ∈ sc.names, y.2 = .free → ∃ c, X.env.cells.lookup y.1 = some c := by
    intro y hy e
    rcases ok.free y hy e with k | k
    · exact I.ok.has _ (.inl k)
    · exact I.ok.has _ (.inr k)
  refine wpAny_comprehension_free (use := use) rfl hs (closure_ok cells) ok.kind (fun y hy e => by rw [ok.uniq y hy, e]) ?_
  refine thn (hi.run pins s σ H _ I h) fun xv s1 hx => thn hx fun itv s2 h2 => ?_
  obtain ⟨it, fp, tn, J, H2, e, I2, T, st2, f2, q⟩ := h2
  subst e
  refine wpAny_newObj_type (newEnv_comp ?_)
  generalize hD : s2.heap.objs.size = D
  obtain ⟨W, ⟨m0, w0⟩, turn⟩ := q D (I2.hok.fresh (Nat.le_of_eq hD))
  generalize hs3 : ({ s2 with heap := s2.heap.push { cls := .type "dict", data := .dict #[] } } : Shared) = s3
  have I3 : Inv X pins σ (upd H2 D O) s3 := by
    subst hs3
    refine I2.laid (t' := s2.toks) (fun b o e => Heap.get?_push_of_some _ e) (Nat.le_of_eq hD) ?_
    subst hD
    exact hO _ s2.heap I2.big
  have e3 : s3.heap = s2.heap.push { cls := .type "dict", data := .dict #[] } := by subst hs3; rfl
  have lt2 : ∀ b ∈ fp, b < s2.heap.objs.size := by
    intro b hb
    obtain ⟨o, e, _⟩ := T.obj _ _ st2 b hb
    exact Heap.lt_size e
  have f3 : ∀ b ∈ fp, FpOk X pins (upd H2 D O) b ∧ b < s3.heap.objs.size := by
    intro b hb
    have lt := lt2 b hb
    have nd : b ≠ D := by subst hD; exact Nat.ne_of_lt lt
    exact ⟨⟨by rw [upd_ne nd]; exact (f2 b hb).1, (f2 b hb).2⟩, by rw [e3, Heap.size_push]; exact Nat.lt_succ_of_lt lt⟩
  have st3 : tn 0 s3.heap := T.keep _ _ _ st2 fun b _ o e => by
    rw [e3]
    exact Heap.get?_push_of_some _ e
  have I4 := block_start I3 ok hN f3
  let cl := cellsFrom (s3.heap.objs.size + 1) sc.names (cloFrom X.env.cells sc.names [])
  have pg := hg s3 (upd H2 D O) s3.heap.objs.size cl fp
  have pt := ht s3 (upd H2 D O) s3.heap.objs.size cl fp
  have pk := hk s3 (upd H2 D O) s3.heap.objs.size cl fp
  have pv := hv s3 (upd H2 D O) s3.heap.objs.size cl fp
  show codeAny _ _ (.compStart (.DictComp kx vx [⟨tg, iter, ifs, 0⟩] sc pos) 0 (.ref it) (.ref D) (compEnvC sc cl s3.heap.objs.size X.env)) (compPost (model X.prog X.w) X.A X.xe use Qf (.ref D) s3.heap.objs.size) { s3 with heap := pushCells (s3.heap.push { cls := .type "dict", data := .dict #[] }) sc.names }
  have n3 : ∀ b ∈ fp, (upd H2 D O) b = none := fun b hb => (f3 b hb).1.1
  generalize hce : compEnvC sc cl s3.heap.objs.size X.env = ce at I4 pg pt pk pv ⊢
  have loc : ce.locals = s3.heap.objs.size := by subst hce; rfl
  generalize hH3 : upd H2 D O = H3 at I3 I4 pg pt pk pv w0 n3 f3
  generalize hs4 : ({ s3 with heap := pushCells (s3.heap.push { cls := .type "dict", data := .dict #[] }) sc.names } : Shared) = s4 at I4 ⊢
  have st4 : tn 0 s4.heap := T.keep _ _ _ st3 fun b _ o e => by
    subst hs4
    exact pushCells_keeps _ _ _ _ (Heap.get?_push_of_some _ e)
  have fps : ∀ {σ' : L2.St} {H' : Hp} {s' : Shared}, Inv (X.blk s3 H3 sc ce fp) [] σ' H' s' → (∀ b ∈ fp, H' b = none) → ∀ b ∈ fp, FpOk (X.blk s3 H3 sc ce fp) [] H' b := by
    intro σ' H' s' I' hn b hb
    refine ⟨hn b hb, (I'.ok.exf b hb).1, I'.ok.exfs b hb, .inl hb, fun x c e => (I'.ok.exf b hb).2 x c e, fun p hp => ?_⟩
    exact absurd (show p ∈ ([] : List (Addr × Obj)) ++ [] from hp) (by simp)
  let own2 := own.map (·.2)
  have loop : codeAny (model X.prog X.w) X.A (.compLoop (.DictComp kx vx [⟨tg, iter, ifs, 0⟩] sc pos) 0 (.ref it) (.ref D) ce) (compPost (model X.prog X.w) X.A X.xe use Qf (.ref D) s3.heap.objs.size) s4 := by
    let Inn : Nat → Shared → Prop := fun n s' => ∃ i H', Inv (X.blk s3 H3 sc ce fp) [] (wipe σ own2) H' s' ∧ tn i s'.heap ∧ (∀ b ∈ fp, H' b = none) ∧ W i n H'
    refine compLoop_anyD Inn ?_ m0 ⟨0, H3, I4, st4, n3, w0⟩
    rintro n s5 ⟨i, H5, I5, st5, n5, w5⟩
    rcases turn i n H5 w5 with ⟨stop, qq⟩ | ⟨go, Nx, hNx, step⟩
    · refine thnF (T.done (X.blk s3 H3 sc ce fp) rfl rfl rfl hc i [] s5 _ H5 (fun _ _ => False) I5 (fps I5 n5) st5 stop) fun r s6 hr6 => ?_
      obtain ⟨hr, I6⟩ := hr6
      subst hr
      have I7 : Inv X pins σ H5 s6 := by
        refine I3.call' (ch := fp) I6.os I6.base I6.hok I6.bare fun b hb => ?_
        have z := (f3 b hb).1.2
        exact ⟨z.2.2.1, z.1, z.2.2.2.1, z.2.2.2.2⟩
      have nC : H5 s3.heap.objs.size = none := by
        have z : H5 ce.locals = none := I6.free
        rwa [loc] at z
      obtain ⟨m, hn, _⟩ := I6.loc
      have hn : s6.heap.Ns ce.locals m := hn
      rw [loc] at hn
      exact fin D s3.heap.objs.size s6 m H5 I7 qq hn (I3.fpOk (Nat.le_refl _) nC)
    · refine thnF (T.item (X.blk s3 H3 sc ce fp) rfl rfl rfl hc i [] s5 _ H5 (fun _ _ => False) I5 (fps I5 n5) st5 go) fun r s6 hr6 => ?_
      obtain ⟨u, hr, h6⟩ := hr6
      subst hr
      refine thnF h6 fun _ s7 hq7 => ?_
      obtain ⟨x, H7, I7, r7, y7, st7, n7⟩ := hq7
      refine thnF (pg.run _ s7 _ H7 x u _ (I7.pinned (fps I7 n7) (T.obj _ _ st7)) r7 (step x H7 y7)) fun _ s8 hq8 => ?_
      obtain ⟨σ8, H8, I8, hw8, q8⟩ := hq8
      refine thnF (pt.run _ s8 σ8 H8 _ I8 q8) fun b s9 hq9 => ?_
      obtain ⟨H9, I9, q9⟩ := hq9
      have back : ∀ {s' : Shared} {H' : Hp}, Inv (X.blk s3 H3 sc ce fp) ([] ++ pinsAt fp s7.heap) σ8 H' s' → Nx H' → ∃ m, m < n ∧ Inn m s' := by
        intro s' H' I' nx
        obtain ⟨m', hm, w'⟩ := hNx H' nx
        have pin : ∀ b ∈ fp, ∀ o, s7.heap.get? b = some o → s'.heap.get? b = some o ∧ H' b = none := by
          intro b hb o e
          have z := I'.pin (b, o) (List.mem_append_right _ (List.mem_append_right _ (mem_pinsAt hb e)))
          exact ⟨z.1, z.2.1⟩
        have hl : (wipe σ own2).length = σ8.length := by rw [← hw8, wipe_length]
        refine ⟨m', hm, i + 1, H', (I'.unpinned (pins := [])).weak hl (fun j v e => ?_), T.keep _ _ _ st7 fun b hb o e => (pin b hb o e).1, fun b hb => ?_, w'⟩
        · have e' : (wipe σ8 own2)[j]? = some (some v) := by rw [hw8]; exact e
          exact (wipe_some e').1
        · obtain ⟨o, e, _⟩ := T.obj _ _ st7 b hb
          exact (pin b hb o e).2
      cases b with
      | false =>
        simp only [Bool.false_eq_true, if_false] at q9 ⊢
        exact back I9 q9
      | true =>
        simp only [if_true] at q9 ⊢
        refine thnF (pk.run _ s9 σ8 H9 _ I9 q9) fun z s10 hq10 => ?_
        obtain ⟨yk, H10, I10, r10, q10⟩ := hq10
        refine thnF (pv.run _ s10 σ8 H10 _ I10 q10) fun z2 s11 hq11 => ?_
        obtain ⟨yv, H11, I11, r11, H12, dp, nx⟩ := hq11
        exact d_dictPut (X := X.blk s3 H3 sc ce fp) (show X.A.units + 1 < cLine by omega) I11 dp r10 r11 fun s12 I12 => back I12 nx
  exact codeAny_compStart_dict loop (T.self X.A 0 _ _ _ st4 loop)
theorem pe_dcG {O : HO} {kx vx tg iter : Expr} {ifs : List Expr} {sc : Scope} {own : List (Str × Nat)} {pos : Pos} {wi : TI} {g : TG} {tt : TT} {tk tv : TE}
    (hO : ∀ (H : Hp) (h : Heap), sysModules < h.objs.size → ObjOk X.prog X.w H (h.push { cls := .type "dict", data := .dict #[] }) h.objs.size O)
    (hu : X.A.units + 64 < cLine) (hc : X.calm = true) (hN : X.N.Nodup) (hi : PI X tg iter wi) (ok : BlkOk X.N X.env.scope sc own)
    (hg : BlkA X sc fun Y => PG Y tg g) (ht : BlkA X sc fun Y => PTs Y ifs tt) (hk : BlkA X sc fun Y => PE Y kx tk) (hv : BlkA X sc fun Y => PE Y vx tv) (hs : ∀ x, foldedSetIterable iter X.env x = pure x) :
    PE X (.DictComp kx vx [⟨tg, iter, ifs, 0⟩] sc pos) (tDcG O wi g tt tk tv (own.map (·.2))) := by
  refine ⟨fun pins s σ H Q I h => ?_⟩
  rw [arm_eval_DictComp]
  refine dcG_core hO hu hc hN I hi ok hg ht hk hv hs h fun D C s' m H' I' q hn f => ⟨m, hn, fun h'' sb => ?_⟩
  obtain ⟨f0, f1, _, f3, f4, f5⟩ := f
  exact ⟨.ref D, H', I'.turned (t' := s'.toks) (fun b o hb e => (sb.2 b hb).trans e) f0 f1 f3 f4 f5, rfl, q⟩
theorem sw_dict {kx vx : Expr} {gs : List Comprehension} {sc : Scope} {pos py : Pos} {y : Str} {l : Nat} {env : PySem.Env} (hk : env.scope.kind = .function) (hy : env.scope.names.lookup y = some .local) (hl : (py.line == pos.line) = true)
    (ha : (sc.names.any fun (n, k) => n == y && (k == .local || k == .cell)) = false) : swapsWith (.DictComp kx vx gs sc pos) (some (.Name y py)) l env = pure true := by
  have k1 : env.kindOf y = some .local := hy
  have k2 : env.blockKind = .function := by
    unfold Env.blockKind
    rw [hk]
    rfl
  unfold swapsWith
  simp only [k2, k1, ha, Expr.pos, hl]
  rfl
/-- y = {k: v for ..} -/
theorem ps_setDcG {O : HO} {i : Nat} {y : Str} {py : Pos} {kx vx tg iter : Expr} {ifs : List Expr} {sc : Scope} {own : List (Str × Nat)} {pos spos : Pos} {wi : TI} {g : TG} {tt : TT} {tk tv : TE}
    (hO : ∀ (H : Hp) (h : Heap), sysModules < h.objs.size → ObjOk X.prog X.w H (h.push { cls := .type "dict", data := .dict #[] }) h.objs.size O)
    (hu : X.A.units + 64 < cLine) (hc : X.calm = true) (hN : X.N.Nodup) (hy : X.N[i]? = some y) (hyl : X.env.scope.names.lookup y = some .local)
    (hsw : swapsWith (.DictComp kx vx [⟨tg, iter, ifs, 0⟩] sc pos) (some (.Name y py)) spos.line X.env = pure true) (hi : PI X tg iter wi) (ok : BlkOk X.N X.env.scope sc own)
    (hg : BlkA X sc fun Y => PG Y tg g) (ht : BlkA X sc fun Y => PTs Y ifs tt) (hk : BlkA X sc fun Y => PE Y kx tk) (hv : BlkA X sc fun Y => PE Y vx tv) (hs : ∀ x, foldedSetIterable iter X.env x = pure x) :
    PS X (.Assign [.Name y py] (.DictComp kx vx [⟨tg, iter, ifs, 0⟩] sc pos) spos) (tAsg (tDcG O wi g tt tk tv (own.map (·.2))) (gName i)) := by
  refine ⟨fun pins s σ H D I h => ?_⟩
  rw [exec_Assign_Name_used _ _ _ _ hsw]
  refine wpAny_bind (wpAny_standAt (wpAny_bind ?_))
  show wpAny _ X.A (do let _ ← comprehension (.DictComp kx vx [⟨tg, iter, ifs, 0⟩] sc pos) sc X.env (firstIterPos [⟨tg, iter, ifs, 0⟩] pos) newDict false (eval iter X.env) (some (assign (.Name y py) X.env))) _ _ s
  have h' : tDcG O wi g tt tk tv (own.map (·.2)) σ H (fun x H1 => gName i x σ H1 D.nx) := h
  refine wpAny_bind (thn (dcG_core (Qf := fun _ s' => SP X pins D .next s') hO hu hc hN I hi ok hg ht hk hv hs h' fun L C s' m H' I' q hn f => ?_) fun _ s' hq => wpAny_pure (wpAny_pure hq))
  show wpAny _ _ (assign (.Name y py) X.env (.ref L)) _ _ _
  obtain ⟨f0, f1, f2, f3, f4, f5⟩ := f
  refine wpAny_assign_Name (store_ok2 (v := V.ref L) I' hN hy (.inl hyl) rfl (fun s2 I2 hz => ?_) (.inr hyl))
  obtain ⟨a, sb, ha⟩ := hz
  have nC : C ≠ a := ha.elim (fun z => by rw [z]; exact f1) fun z e => f4 y a z e.symm
  refine ⟨m, hn.sameBut sb nC, fun h3 sb3 => ⟨_, H', I2.turned (t' := s2.toks) (fun b o hb e => (sb3.2 b hb).trans e) f0 f1 f3 f4 f5, q⟩⟩
end
end Dn
namespace Dn
open PySem PySem.Spec L2 PyProof.Rows
/-! ### texts in order -/
def insW (x : List Nat) : List (List Nat) → List (List Nat)
  | [] => [x]
  | y :: r => if ltCps y x then y :: insW x r else x :: y :: r
def sortW : List (List Nat) → List (List Nat)
  | [] => []
  | x :: r => insW x (sortW r)
theorem lt_irrefl : ∀ a, ltCps a a = false
  | [] => rfl
  | a :: r => by simp [ltCps, lt_irrefl r]
theorem lt_trans : ∀ {a b c : List Nat}, ltCps a b = true → ltCps b c = true → ltCps a c = true
  | [], [], _, h, _ => by simp [ltCps] at h
  | [], _ :: _, [], _, h => by simp [ltCps] at h
  | [], _ :: _, _ :: _, _, _ => rfl
  | _ :: _, [], _, h, _ => by simp [ltCps] at h
  | _ :: _, _ :: _, [], _, h => by simp [ltCps] at h
  | a :: r, b :: t, c :: u, h1, h2 => by
    simp only [ltCps, Bool.or_eq_true, Bool.and_eq_true, decide_eq_true_eq, beq_iff_eq] at h1 h2 ⊢
    rcases h1 with h1 | ⟨e1, h1⟩ <;> rcases h2 with h2 | ⟨e2, h2⟩
    · exact .inl (by omega)
    · exact .inl (by omega)
    · exact .inl (by omega)
    · exact .inr ⟨by omega, lt_trans h1 h2⟩
theorem lt_tri : ∀ (a b : List Nat), ltCps a b = false → ltCps b a = false → a = b
  | [], [], _, _ => rfl
  | [], _ :: _, h, _ => by simp [ltCps] at h
  | _ :: _, [], _, h => by simp [ltCps] at h
  | a :: r, b :: t, h1, h2 => by
    simp only [ltCps, Bool.or_eq_false_iff, Bool.and_eq_false_iff, decide_eq_false_iff_not, beq_eq_false_iff_ne, ne_eq] at h1 h2
    have e : a = b := by omega
    subst e
    rw [lt_tri r t (h1.2.resolve_left (by simp)) (h2.2.resolve_left (by simp))]
/-- not greater -/
def LeW (a b : List Nat) : Prop := ltCps b a = false
theorem LeW.trans {a b c : List Nat} (h1 : LeW a b) (h2 : LeW b c) : LeW a c := by
  unfold LeW at *
  cases e : ltCps c a with
  | false => rfl
  | true =>
    exfalso
    cases e2 : ltCps a b with
    | true =>
      rw [lt_trans e e2] at h2
      cases h2
    | false =>
      have := lt_tri a b e2 h1
      subst this
      rw [e] at h2
      cases h2
theorem ins_perm (x : List Nat) : ∀ l, (insW x l).Perm (x :: l)
  | [] => .refl _
  | y :: r => by
    unfold insW
    split
    · exact ((ins_perm x r).cons y).trans (.swap x y r)
    · exact .refl _
theorem sort_perm : ∀ l, (sortW l).Perm l
  | [] => .refl _
  | x :: r => (ins_perm x _).trans ((sort_perm r).cons x)
theorem ins_sorted (x : List Nat) : ∀ l, l.Pairwise LeW → (insW x l).Pairwise LeW
  | [], _ => by simp [insW]
  | y :: r, h => by
    have h' := List.pairwise_cons.mp h
    unfold insW
    split
    · rename_i hl
      refine List.pairwise_cons.mpr ⟨fun z hz => ?_, ins_sorted x r h'.2⟩
      rcases List.mem_cons.mp ((ins_perm x r).mem_iff.mp hz) with e | hz
      · subst e
        unfold LeW
        cases e2 : ltCps z y with
        | false => rfl
        | true =>
          have := lt_trans hl e2
          rw [lt_irrefl] at this
          cases this
      · exact h'.1 z hz
    · rename_i hl
      have hxy : LeW x y := by simpa [LeW] using hl
      refine List.pairwise_cons.mpr ⟨fun z hz => ?_, h⟩
      rcases List.mem_cons.mp hz with e | hz
      · subst e; exact hxy
      · exact hxy.trans (h'.1 z hz)
theorem sort_sorted : ∀ l, (sortW l).Pairwise LeW
  | [] => List.Pairwise.nil
  | x :: r => ins_sorted x _ (sort_sorted r)
theorem sorted_unique : ∀ {l m : List (List Nat)}, l.Perm m → l.Pairwise LeW → m.Pairwise LeW → l = m
  | [], m, p, _, _ => by rw [List.nil_perm.mp p]
  | x :: l, [], p, _, _ => by simp at p
  | x :: l, y :: m, p, hl, hm => by
    have hl' := List.pairwise_cons.mp hl
    have hm' := List.pairwise_cons.mp hm
    have e : x = y := by
      have h1 : x ∈ y :: m := p.mem_iff.mp List.mem_cons_self
      have h2 : y ∈ x :: l := p.mem_iff.mpr List.mem_cons_self
      rcases List.mem_cons.mp h1 with e | h1
      · exact e
      rcases List.mem_cons.mp h2 with e | h2
      · exact e.symm
      exact lt_tri x y (hm'.1 x h1) (hl'.1 y h2)
    subst e
    rw [sorted_unique ((List.perm_cons x).mp p) hl'.2 hm'.2]
theorem risingS_pw : ∀ (l : List Str) (p : Str), risingS p l = true → (p :: l).Pairwise (fun a b => LeW a.cps.toList b.cps.toList)
  | [], p, _ => by simp
  | x :: r, p, h => by
    have h' : (!ltCps x.cps.toList p.cps.toList && risingS x r) = true := h
    rw [Bool.and_eq_true, Bool.not_eq_true'] at h'
    have ih := risingS_pw r x h'.2
    refine List.pairwise_cons.mpr ⟨fun z hz => ?_, ih⟩
    have px : LeW p.cps.toList x.cps.toList := h'.1
    rcases List.mem_cons.mp hz with e | hz
    · rw [e]; exact px
    · exact px.trans ((List.pairwise_cons.mp ih).1 z hz)
def mkS (s : List Nat) : Str := ⟨s.toArray⟩
/-- texts in order are those of sortW -/
theorem sortedS_unique {ys : List Str} {ks : List (List Nat)} (p : ys.Perm (ks.map mkS)) (h : sortedS ys = true) : ys = (sortW ks).map mkS := by
  have pw : (ys.map fun s => s.cps.toList).Pairwise LeW := by
    cases ys with
    | nil => exact List.Pairwise.nil
    | cons y r => exact List.Pairwise.map _ (fun a b h => h) (risingS_pw r y h)
  have pe : (ys.map fun s => s.cps.toList).Perm (sortW ks) := by
    have q := p.map fun s => s.cps.toList
    have e : (ks.map mkS).map (fun s => s.cps.toList) = ks := by
      rw [List.map_map]
      exact (List.map_congr_left (g := id) fun a _ => by simp [mkS]).trans (List.map_id ks)
    rw [e] at q
    exact q.trans (sort_perm ks).symm
  have e := sorted_unique pe pw (sort_sorted ks)
  rw [← e, List.map_map]
  refine ((List.map_congr_left (g := id) fun a _ => ?_).trans (List.map_id ys)).symm
  show (⟨(a.cps.toList).toArray⟩ : Str) = a
  simp
end Dn
namespace Dn
open PySem L2

/-! ### results -/
inductive Res (α : Type) where
  | ok (a : α) (M : Mem) | exc (c : Nat) (v : Va) (M : Mem) | bad
def Res.bind {α β : Type} (r : Res α) (k : α → Mem → Res β) : Res β := match r with
  | .ok a M => k a M
  | .exc c v M => .exc c v M
  | .bad => .bad
@[simp] theorem Res.bind_ok {α β : Type} (a : α) (M : Mem) (k : α → Mem → Res β) : (Res.ok a M).bind k = k a M := rfl
@[simp] theorem Res.bind_exc {α β : Type} (c : Nat) (v : Va) (M : Mem) (k : α → Mem → Res β) : (Res.exc c v M : Res α).bind k = .exc c v M := rfl
@[simp] theorem Res.bind_bad {α β : Type} (k : α → Mem → Res β) : (Res.bad : Res α).bind k = .bad := rfl

/-! ### equality -/
mutual
def veq : Va → Va → Bool
  | .non, .non => true
  | .bl a, .bl b => a == b
  | .bl a, .int j => (if a then 1 else 0) == j
  | .int i, .bl b => i == (if b then 1 else 0)
  | .int i, .int j => i == j
  | .str x, .str y => x == y
  | .lst xs, .lst ys => veqs xs ys
  | .tup xs, .tup ys => veqs xs ys
  | _, _ => false
def veqs : List Va → List Va → Bool
  | [], [] => true
  | x :: xs, y :: ys => veq x y && veqs xs ys
  | _, _ => false
end
mutual
/-- how deep, how long its texts' signs are right -/
def vdep : Va → Nat
  | .tup xs => vdeps xs + 1
  | .lst xs => vdeps xs + 1
  | _ => 0
def vdeps : List Va → Nat
  | [] => 0
  | x :: xs => max (vdep x) (vdeps xs)
end
mutual
/-- data without references, of right texts -/
def vpure : Va → Bool
  | .tup xs => vpures xs
  | .lst xs => vpures xs
  | .str s => PyData.strOk ⟨s.toArray⟩
  | .ref _ => false
  | _ => true
def vpures : List Va → Bool
  | [] => true
  | x :: xs => vpure x && vpures xs
end
/-! mutable lists read as values, f tells of the objects -/
mutual
def vread (f : Nat → Option Va) : Va → Option Va
  | .tup xs => (vreads f xs).map .tup
  | .lst xs => (vreads f xs).map .lst
  | .ref n => f n
  | v => some v
def vreads (f : Nat → Option Va) : List Va → Option (List Va)
  | [] => some []
  | x :: xs => match vread f x, vreads f xs with
    | some y, some ys => some (y :: ys)
    | _, _ => none
end
def rd0 : Nat → Option Va := fun _ => none
def rd1 (g : Nat → Option Va) (M : Mem) : Nat → Option Va := fun n => match M[n]? with
  | some (.lst xs) => (vreads g xs).map .lst
  | _ => none
/-- two levels of mutable lists -/
def rdM (M : Mem) : Nat → Option Va := rd1 (rd1 (rd1 rd0 M) M) M
def okD (v : Va) : Bool := vpure v && decide (vdep v ≤ 64)
def eqC (M : Mem) (v w : Va) : Option Bool := match vread (rdM M) v, vread (rdM M) w with
  | some a, some b => if okD a && okD b then some (veq a b) else none
  | _, _ => none

/-! ### operators -/
/-- the items of a list: a value or an object -/
def itemsL (M : Mem) : Va → Option (List Va)
  | .lst xs => some xs
  | .ref n => match M[n]? with
    | some (.lst xs) => some xs
    | _ => none
  | _ => none
/-- a new list, as a value or as an object -/
def newL (m : Bool) (xs : List Va) (M : Mem) : Res Va := if xs.length ≤ sizeLine then (if m then .ok (.ref M.length) (M ++ [.lst xs]) else .ok (.lst xs) M) else .bad
def i64 (i : Int) : Bool := decide (-(2 ^ 64) < i) && decide (i < 2 ^ 64)
def mulOk (i j : Int) : Bool := i64 i || i64 j || decide (i.natAbs.log2 + j.natAbs.log2 < 1000000)
def opB (m : Bool) (op : Operator) (v w : Va) (M : Mem) : Res Va := match op, v, w with
  | .Add, .int i, .int j => .ok (.int (i + j)) M
  | .Sub, .int i, .int j => .ok (.int (i - j)) M
  | .Mult, .int i, .int j => if mulOk i j then .ok (.int (i * j)) M else .bad
  | .Mod, .int i, .int j => if 0 < j then .ok (.int (i % j)) M else .bad
  | .FloorDiv, .int i, .int j => if 0 < j ∧ j.natAbs.log2 < 9000 then .ok (.int (i / j)) M else .bad
  | .Pow, .int i, .int j => if 0 ≤ j ∧ j ≤ 1000000 ∧ i.natAbs < 2 ^ 64 then .ok (.int (i ^ j.toNat)) M else .bad
  | .Add, .str x, .str y => if x.length + y.length ≤ sizeLine then .ok (.str (x ++ y)) M else .bad
  | .Add, .tup x, .tup y => if x.length + y.length ≤ sizeLine then .ok (.tup (x ++ y)) M else .bad
  | .Mult, .tup x, .int k => if 0 ≤ k ∧ k < 2 ^ 62 ∧ x.length * k.toNat ≤ sizeLine then .ok (.tup (List.replicate k.toNat x).flatten) M else .bad
  | .Mult, v, .int k => match itemsL M v with
    | some x => if 0 ≤ k ∧ k < 2 ^ 62 ∧ x.length * k.toNat ≤ sizeLine then newL m (List.replicate k.toNat x).flatten M else .bad
    | none => .bad
  | .Add, v, w => match itemsL M v, itemsL M w with
    | some x, some y => if x.length + y.length ≤ sizeLine then newL m (x ++ y) M else .bad
    | _, _ => .bad
  | _, _, _ => .bad

def flat : Va → Bool
  | .non | .bl _ | .int _ | .str _ => true
  | _ => false
/-- a key -/
def keyOf : Va → Option (Sum Int (List Nat))
  | .int i => some (.inl i)
  | .str s => some (.inr s)
  | _ => none
def keysOf : List Va → Option (List (Sum Int (List Nat)))
  | [] => some []
  | v :: vs => match keyOf v, keysOf vs with
    | some k, some ks => some (k :: ks)
    | _, _ => none
def look {κ : Type} [DecidableEq κ] (kvs : List (κ × Va)) (k : κ) : Option Va := match kvs with
  | [] => none
  | (a, v) :: r => if a = k then some v else look r k
def put {κ : Type} [DecidableEq κ] (kvs : List (κ × Va)) (k : κ) (v : Va) : List (κ × Va) := match kvs with
  | [] => [(k, v)]
  | (a, u) :: r => if a = k then (a, v) :: r else (a, u) :: put r k v
/-- what a dict has at a key: none: no dict or no key of its kind -/
def dget (M : Mem) (n : Nat) (k : Va) : Option (Option Va) := match M[n]?, k with
  | some (.dic kvs), .int i => some (look kvs (.inl i))
  | some (.dic kvs), .str s => some (look kvs (.inr s))
  | some (.dit kvs), .tup vs => (keysOf vs).map (look kvs)
  | _, _ => none
def dput (M : Mem) (n : Nat) (k v : Va) : Option Mem := match M[n]?, k with
  | some (.dic kvs), .int i => if kvs.length < sizeLine then some (M.set n (.dic (put kvs (.inl i) v))) else none
  | some (.dic kvs), .str s => if kvs.length < sizeLine then some (M.set n (.dic (put kvs (.inr s) v))) else none
  | some (.dit kvs), .tup vs => match keysOf vs with
    | some ks => if kvs.length < sizeLine then some (M.set n (.dit (put kvs ks v))) else none
    | none => none
  | _, _ => none

/-- texts by themselves; lists of other lengths -/
def eqL (M : Mem) (v w : Va) : Option Bool := match eqC M v w with
  | some b => some b
  | none => match v, w with
    | .str a, .str b => some (a == b)
    | v, w => match itemsL M v, itemsL M w with
      | some xs, some ys => if xs.length = ys.length then none else some false
      | _, _ => none
def subList (x y : List Nat) : Bool := match x with
  | [c] => y.any (· == c)
  | _ => false
def opIn (v w : Va) (M : Mem) : Option Bool := match w with
  | .tup xs => if flat v && xs.all flat then some (xs.any fun y => veq y v) else none
  | .lst xs => if flat v && xs.all flat then some (xs.any fun y => veq y v) else none
  | .str y => match v with
    | .str [c] => some (y.any (· == c))
    | _ => none
  | .ref n => match M[n]? with
    | some (.lst xs) => if flat v && xs.all flat then some (xs.any fun y => veq y v) else none
    | _ => (dget M n v).map (·.isSome)
  | _ => none
def opC (op : CmpOp) (v w : Va) (M : Mem) : Option Bool := match op with
  | .Eq => eqL M v w
  | .NotEq => (eqL M v w).map (!·)
  | .Lt => match v, w with
    | .int i, .int j => some (decide (i < j))
    | _, _ => none
  | .LtE => match v, w with
    | .int i, .int j => some (decide (i ≤ j))
    | _, _ => none
  | .Gt => match v, w with
    | .int i, .int j => some (decide (j < i))
    | _, _ => none
  | .GtE => match v, w with
    | .int i, .int j => some (decide (j ≤ i))
    | _, _ => none
  | .In => opIn v w M
  | .NotIn => (opIn v w M).map (!·)
  | _ => none
/-- v[w] -/
def opIx (v w : Va) (M : Mem) : Option Va := match v, w with
  | .tup xs, .int i => atI xs i
  | .lst xs, .int i => atI xs i
  | .str s, .int i => if s.length ≤ sizeLine then (atI s i).map fun c => .str [c] else none
  | .ref n, w => match M[n]?, w with
    | some (.lst xs), .int i => atI xs i
    | _, _ => (dget M n w).bind id
  | _, _ => none
/-- v[lo:hi] -/
def cutA {α : Type} (xs : List α) (lo hi : Option Int) : List α := (xs.drop (HT.sIx xs.length 0 lo)).take (HT.sIx xs.length xs.length hi - HT.sIx xs.length 0 lo)
def opSl (m : Bool) (v : Va) (lo hi : Option Int) (M : Mem) : Res Va := match v with
  | .tup xs => .ok (.tup (cutA xs lo hi)) M
  | .str s => if s.length ≤ sizeLine then .ok (.str (cutA s lo hi)) M else .bad
  | v => match itemsL M v with
    | some xs => if m then .ok (.ref M.length) (M ++ [.lst (cutA xs lo hi)]) else .ok (.lst (cutA xs lo hi)) M
    | none => .bad
end Dn
namespace Dn
open PySem L2

/-- what is wanted of an operation's result -/
def OkR (G : Glo) (ι γ : List Addr) (H : Hp) (Q : VK) : Res Va → Prop
  | .ok z M' => ∀ ι' H' q, Ext ι H ι' H' → RM G ι' γ M' H' → RV ι' γ H' z q → Q q H'
  | _ => False
def rB (G : Glo) (m : Bool) (op : Operator) : R2 := fun x y H Q => ∃ ι γ M v w, RM G ι γ M H ∧ RV ι γ H v x ∧ RV ι γ H w y ∧ OkR G ι γ H Q (opB m op v w M)

section
variable {G : Glo} {ι γ : List Addr} {M : Mem} {H : Hp}
theorem itemsL_at (R : RM G ι γ M H) {v : Va} {x : V} {xs : List Va} (h : itemsL M v = some xs) (r : RV ι γ H v x) : ∃ a ys, x = .ref a ∧ Rd H a (.lst ys) ∧ RVs ι γ H xs ys := by
  cases r with
  | lst n h1 r1 =>
    simp only [itemsL, Option.some.injEq] at h
    subst h
    exact ⟨_, _, rfl, h1, r1⟩
  | ref e =>
    rename_i n a
    simp only [itemsL] at h
    cases q : M[n]? with
    | none => rw [q] at h; cases h
    | some o =>
      rw [q] at h
      cases o with
      | lst ys =>
        simp only [Option.some.injEq] at h
        subst h
        obtain ⟨zs, h1, h2⟩ := R.at_ n _ a q e
        exact ⟨a, zs, rfl, .inl h1, h2⟩
      | dic _ => cases h
      | dit _ => cases h
      | ins _ _ => cases h
  | non => cases h
  | bl _ => cases h
  | int _ => cases h
  | str _ => cases h
  | tup _ _ _ => cases h
/-- a new list is as newL says -/
theorem newL_at (R : RM G ι γ M H) {m : Bool} {xs : List Va} {ys : List V} {Q : VK} (r : RVs ι γ H xs ys) (h : OkR G ι γ H Q (newL m xs M)) : xs.length ≤ sizeLine ∧ ∀ p, H p = none → Q (.ref p) (upd H p (.lst ys)) := by
  unfold newL at h
  by_cases hz : xs.length ≤ sizeLine
  · rw [if_pos hz] at h
    refine ⟨hz, fun p hp => ?_⟩
    cases m with
    | true =>
      have h' : OkR G ι γ H Q (.ok (.ref M.length) (M ++ [.lst xs])) := h
      have e := Ext.obj (ι := ι) (o := HO.lst ys) hp
      refine h' (ι ++ [p]) _ _ e (R.obj hp ⟨ys, upd_same, r.mono e⟩) (.ref ?_)
      rw [List.getElem?_append_right (by rw [R.len]; exact Nat.le_refl _), R.len, Nat.sub_self]
      rfl
    | false =>
      have h' : OkR G ι γ H Q (.ok (.lst xs) M) := h
      have e := Ext.val (ι := ι) (o := HO.lst ys) hp
      exact h' ι _ _ e (R.val hp) (.lst (R.fresh hp) (.inl upd_same) (r.mono e))
  · rw [if_neg hz] at h
    exact h.elim
end

section
variable {X : Cx}
theorem rdLst {pins : List (Addr × Obj)} {s : Shared} {σ : L2.St} {H : Hp} {l : Addr} {xs : List V} (I : Inv X pins σ H s) (h : Rd H l (.lst xs)) : xs.length ≤ sizeLine ∧ ∃ (its : List Value) (n : Nat), Vals xs its ∧ xs.length = its.length ∧ s.heap.get? l = some { cls := .type "list", data := .seq its.toArray n } := by
  obtain ⟨z, its, n, r, e⟩ := h.ok I.hok
  exact ⟨z, its, n, r, r.length, e⟩
def rCatR : R2 := fun x y H Q => ∃ l b xs zs, x = .ref l ∧ y = .ref b ∧ Rd H l (.lst xs) ∧ Rd H b (.lst zs) ∧ xs.length + zs.length ≤ sizeLine ∧ ∀ p, H p = none → Q (.ref p) (upd H p (.lst (xs ++ zs)))
theorem op_catR : OpR X (binaryOp .Add) rCatR := by
  intro pins s σ H x y v u Q I rx ry h
  obtain ⟨l, b, xs, zs, rfl, rfl, hH, hB, hz, q⟩ := h
  cases rx
  cases ry
  obtain ⟨z, its, n, r, hl, e⟩ := rdLst I hH
  obtain ⟨z2, its2, n2, r2, hl2, e2⟩ := rdLst I hB
  refine PySem.P.add_list e e2 ?_ (by rw [List.size_toArray, List.size_toArray]; omega)
  have ea : its.toArray ++ its2.toArray = (its ++ its2).toArray := by simp
  rw [ea]
  exact ⟨.ref _, _, I.lnew (t' := s.toks) (r.append r2) (by rw [List.length_append]; omega), rfl, q _ I.fresh⟩
def rRepR : R2 := fun x y H Q => ∃ l k xs, x = .ref l ∧ y = .int k ∧ Rd H l (.lst xs) ∧ -(2 ^ 63) ≤ k ∧ k < 2 ^ 63 ∧ xs.length * k.toNat ≤ sizeLine ∧
  ∀ p, H p = none → Q (.ref p) (upd H p (.lst (List.replicate k.toNat xs).flatten))
open PyProof.Rows in
theorem op_repR : OpR X (binaryOp .Mult) rRepR := by
  intro pins s σ H x y v u Q I rx ry h
  obtain ⟨l, k, xs, rfl, rfl, hH, h1, h2, hz, q⟩ := h
  cases rx
  obtain ⟨t, rfl⟩ := ry
  obtain ⟨z, its, n, r, hl, e⟩ := rdLst I hH
  have hlen : its.toArray.size * k.toNat ≤ sizeLine := by rw [List.size_toArray, ← hl]; exact hz
  have hcap : ¬ its.toArray.size * k.toNat > (2 ^ 63 - 1) / 8 := by
    have : (sizeLine : Nat) ≤ (2 ^ 63 - 1) / 8 := by decide
    omega
  have hfit : ¬ (!Builtin.List.listFitsIndex k) = true := by
    rw [fitsIndex_both h1 h2]
    exact Bool.false_ne_true
  have hlong : ¬ Builtin.List.listTooLong (its.toArray.size * k.toNat) = true := by
    rw [notLongL hlen]
    exact Bool.false_ne_true
  have hnew : List.foldl (fun x1 x2 => x1 ++ x2) #[] (List.replicate (if its.toArray.isEmpty = true then 0 else k.toNat) its.toArray) = (List.replicate k.toNat its).flatten.toArray := by
    have f0 : ∀ m : Nat, List.foldl (fun x1 x2 => x1 ++ x2) #[] (List.replicate m its.toArray) = (List.replicate m its).flatten.toArray := fun m => by
      have := foldl_rep its m []
      rw [List.nil_append] at this
      exact this
    rw [f0]
    cases its with
    | nil => simp
    | cons a r' => rw [if_neg (by simp)]
  refine wpAny_binaryOp_repeat_ref (T := "list") (U := "int") (by decide) ⟨_, e, rfl⟩ (fun s' => typeIs_int s' k t) noFill_list_mul F.fills_int_mul F.slot_int_rmul repeat_list F.slot_int_index.lookup
    (call_meets F.slot_int_rmul (typeIs_int s k t) F.entry_int_rmul (F.args_int_rmul_2 _ _) (int___rmul___int_list k t l its.toArray n)
      ⟨e, rfl, ⟨_, e, rfl⟩, call_meets F.slot_list_mul ⟨_, e, rfl⟩ F.entry_list_mul (F.args_list_mul_2 _ _) (AutoListH.list___mul___list_int_3 l its.toArray n k t hfit hcap hlong) ⟨e, ?_⟩⟩)
  rw [hnew]
  exact ⟨.ref _, _, I.lnew (t' := s.toks) (r.rep k.toNat) (by rw [PyProof.Rows.lm_len_rep_flat, Nat.mul_comm]; exact hz), rfl, q _ I.fresh⟩

/-! tuple * int -/
theorem tuple_mul1 (l : Addr) (items : Array Value) (n : Nat) (dd : Option Addr) (sl : Array (Option Value)) (x : Int) (u : Tok) (c0 : (decide (x < -(2 ^ 63)) || decide (x ≥ 2 ^ 63)) = false) (c1 : (items.isEmpty || x == 1) = true) :
    Meets (Builtin.«tuple.__mul__» ⟨[.ref l, .int x u], []⟩) (fun _ R s => s.heap.get? l = some { cls := .type "tuple", dict := dd, data := .seq items n, slots := sl } ∧ R (.ok (.ret (Value.ref l))) s) :=
  .of_wp fun prog w A R s h => by
    obtain ⟨hp, g, d, tk, os⟩ := s
    obtain ⟨hl, h⟩ := h
    have f1 := AutoSeq1.idx_int
    wp_walk using wpAny_loadPart' hl
    repeat (first
      | (refine wpAny_ite_false (decide_eq_false (by rw [c0]; exact Bool.false_ne_true)) ?_; wp_walk using wpAny_loadPart' hl)
      | (refine wpAny_ite_true (decide_eq_true c1) ?_; wp_walk using wpAny_loadPart' hl))
    exact ⟨_, rfl, h⟩
theorem tuple_mul0 (l : Addr) (items : Array Value) (n : Nat) (dd : Option Addr) (sl : Array (Option Value)) (x : Int) (u : Tok) (c0 : (decide (x < -(2 ^ 63)) || decide (x ≥ 2 ^ 63)) = false) (c1 : (items.isEmpty || x == 1) = false) (c2 : (decide (x ≤ 0) || items.isEmpty) = true) :
    Meets (Builtin.«tuple.__mul__» ⟨[.ref l, .int x u], []⟩) (fun _ R s => s.heap.get? l = some { cls := .type "tuple", dict := dd, data := .seq items n, slots := sl } ∧
      R (.ok (.ret (Value.ref s.heap.objs.size))) { s with heap := s.heap.push { cls := Value.type "tuple", data := Data.seq #[] }, toks := s.toks }) :=
  .of_wp fun prog w A R s h => by
    obtain ⟨hp, g, d, tk, os⟩ := s
    obtain ⟨hl, h⟩ := h
    have f1 := AutoSeq1.idx_int
    wp_walk using wpAny_loadPart' hl
    repeat (first
      | (refine wpAny_ite_false (decide_eq_false (by rw [c0]; exact Bool.false_ne_true)) ?_; wp_walk using wpAny_loadPart' hl)
      | (refine wpAny_ite_false (decide_eq_false (by rw [c1]; exact Bool.false_ne_true)) ?_; wp_walk using wpAny_loadPart' hl)
      | (refine wpAny_ite_true (decide_eq_true c2) ?_; wp_walk using wpAny_loadPart' hl))
    exact ⟨_, rfl, h⟩
def rMulT : R2 := fun x y H Q => ∃ l k xs, x = .ref l ∧ y = .int k ∧ H l = some (.tup xs) ∧ 0 ≤ k ∧ k < 2 ^ 62 ∧ xs.length * k.toNat ≤ sizeLine ∧
  ((xs = [] ∨ k = 1) → Q (.ref l) H) ∧ (¬ (xs = [] ∨ k = 1) → ∀ p, H p = none → Q (.ref p) (upd H p (.tup (List.replicate k.toNat xs).flatten)))
open PyProof.Rows in
theorem op_mulT : OpR X (binaryOp .Mult) rMulT := by
  intro pins s σ H x y v u Q I rx ry h
  obtain ⟨l, k, xs, rfl, rfl, hT, h1, h2, hz, q1, q2⟩ := h
  cases rx
  obtain ⟨t, rfl⟩ := ry
  obtain ⟨its, r, ⟨⟨cls, dd, data, sl⟩, ho, hc, n, hd⟩, hs⟩ := I.tuple (SqT.of hT)
  simp only at hc hd
  subst hc hd
  have hle : its.length = xs.length := r.length.symm
  have hsz0 : its.toArray.size = xs.length := by rw [List.size_toArray, hle]
  have c0 : (decide (k < -(2 ^ 63)) || decide (k ≥ 2 ^ 63)) = false := by
    rw [decide_eq_false (by omega), decide_eq_false (by omega)] <;> rfl
  have emp : its.toArray.isEmpty = true ↔ xs = [] := by
    rw [Array.isEmpty_iff_size_eq_zero, hsz0]
    exact List.length_eq_zero_iff
  refine wpAny_binaryOp_repeat_ref (T := "tuple") (U := "int") (by decide) ⟨_, ho, rfl⟩ (fun s' => typeIs_int s' k t) noFill_tuple_mul F.fills_int_mul F.slot_int_rmul repeat_tuple F.slot_int_index.lookup
    (call_meets F.slot_int_rmul (typeIs_int s k t) F.entry_int_rmul (F.args_int_rmul_2 _ _) (int_rmul_tuple k t l its.toArray n dd sl)
      ⟨ho, rfl, ⟨_, ho, rfl⟩, ?_⟩)
  by_cases hc1 : xs = [] ∨ k = 1
  · have c1 : (its.toArray.isEmpty || k == 1) = true := by
      rw [Bool.or_eq_true]
      rcases hc1 with e | e
      · exact .inl (emp.mpr e)
      · exact .inr (beq_iff_eq.mpr e)
    exact call_meets F.slot_tuple_mul ⟨_, ho, rfl⟩ F.entry_tuple_mul (F.args_tuple_mul_2 _ _) (tuple_mul1 l its.toArray n dd sl k t c0 c1) ⟨ho, ⟨.ref l, H, I, rfl, q1 hc1⟩⟩
  · have hi : its.toArray.isEmpty = false := by
      cases e : its.toArray.isEmpty with
      | false => rfl
      | true => exact absurd (.inl (emp.mp e)) hc1
    have c1 : (its.toArray.isEmpty || k == 1) = false := by
      rw [hi, Bool.false_or]
      exact beq_eq_false_iff_ne.mpr fun e => hc1 (.inr e)
    have fl : (List.replicate k.toNat xs).flatten.length ≤ sizeLine := by rw [PyProof.Rows.lm_len_rep_flat, Nat.mul_comm]; exact hz
    by_cases hk : k ≤ 0
    · have k0 : k = 0 := by omega
      have c2 : (decide (k ≤ 0) || its.toArray.isEmpty) = true := by rw [decide_eq_true hk]; rfl
      refine call_meets F.slot_tuple_mul ⟨_, ho, rfl⟩ F.entry_tuple_mul (F.args_tuple_mul_2 _ _) (tuple_mul0 l its.toArray n dd sl k t c0 c1 c2) ⟨ho, ?_⟩
      refine ⟨.ref s.heap.objs.size, _, I.laid (t' := s.toks) (o := .tup (List.replicate k.toNat xs).flatten) (fun b ob q => Heap.get?_push_of_some _ q) (Nat.le_refl _) ?_, rfl, q2 hc1 _ (I.hok.fresh (Nat.le_refl _))⟩
      exact ⟨fl, [], by rw [k0]; exact .nil, IsTup.new _ _⟩
    · have c2 : (decide (k ≤ 0) || its.toArray.isEmpty) = false := by
        rw [hi, Bool.or_false]
        exact decide_eq_false hk
      have hm : ((its.toArray.size : Nat) : Int) * k ≤ 16777216 := by
        have e : ((its.toArray.size : Nat) : Int) * k = ((xs.length * k.toNat : Nat) : Int) := by
          rw [hsz0]
          have : k = (k.toNat : Int) := by omega
          rw [Int.natCast_mul, ← this]
        rw [e]
        rw [sizeLine_eq] at hz
        omega
      have c4 : Builtin.Tuple.tupleTooMany (((its.toArray.size : Nat) : Int) * k) = false := by
        unfold Builtin.Tuple.tupleTooMany
        rw [sizeLine_eq]
        exact decide_eq_false (by omega)
      have fl2 : (List.replicate k.toNat its).flatten.length ≤ sizeLine := by rw [PyProof.Rows.lm_len_rep_flat, Nat.mul_comm, hle]; exact hz
      refine call_meets F.slot_tuple_mul ⟨_, ho, rfl⟩ F.entry_tuple_mul (F.args_tuple_mul_2 _ _) (tuple_mulW l its.toArray n dd sl k t c0 c1 c2 (by omega) c4 (by rw [size_rep, List.size_toArray]; exact fl2)) ⟨ho, ?_⟩
      rw [size_rep]
      refine ⟨.ref s.heap.objs.size, _, I.laid (t' := s.toks) (o := .tup (List.replicate k.toNat xs).flatten) (fun b ob q => Heap.get?_push_of_some _ q) (Nat.le_refl _) ?_, rfl, q2 hc1 _ (I.hok.fresh (Nat.le_refl _))⟩
      exact ⟨fl, _, r.rep k.toNat, IsTup.new _ _⟩
end
end Dn
namespace Dn
open PySem L2
section
variable {X : Cx} {G : Glo}
theorem rep_nil {α : Type} (k : Nat) : (List.replicate k ([] : List α)).flatten = [] := by
  induction k with
  | zero => rfl
  | succ n ih => rw [List.replicate_succ, List.flatten_cons, ih]; rfl
theorem rep_one {α : Type} (x : List α) : (List.replicate 1 x).flatten = x := by simp
theorem mulOk_cases {i j : Int} (h : mulOk i j = true) : CMul i j ∨ CMulW i j := by
  simp only [mulOk, i64, Bool.or_eq_true, Bool.and_eq_true, decide_eq_true_eq] at h
  rcases h with (h | h) | h
  · exact .inl (.inl h)
  · exact .inl (.inr h)
  · exact .inr h
theorem op_binD (m : Bool) (op : Operator) : OpR X (binaryOp op) (rB G m op) := by
  intro pins s σ H x y v u Q I rx ry h
  obtain ⟨ι, γ, M, a, b, R, ra, rb, ok⟩ := h
  -- int with int
  have fin : ∀ {z : Va} {q : V}, OkR G ι γ H Q (.ok z M) → RV ι γ H z q → Q q H := fun o r => o ι H _ (Ext.refl ι H) R r
  have lists : op = .Add → (∀ xs ys, itemsL M a = some xs → itemsL M b = some ys → xs.length + ys.length ≤ sizeLine → OkR G ι γ H Q (newL m (xs ++ ys) M) → wpAny (model X.prog X.w) X.A (binaryOp op v u) (EP X pins σ Q) X.xe s) := by
    rintro rfl xs ys h1 h2 hz o
    obtain ⟨la, za, rfl, da, sa⟩ := itemsL_at R h1 ra
    obtain ⟨lb, zb, rfl, db, sb⟩ := itemsL_at R h2 rb
    obtain ⟨_, k⟩ := newL_at R (sa.append sb) o
    exact op_catR pins s σ H _ _ v u Q I rx ry ⟨la, lb, za, zb, rfl, rfl, da, db, by rw [← sa.length, ← sb.length]; exact hz, k⟩
  have reps : op = .Mult → (∀ xs k, itemsL M a = some xs → b = .int k → 0 ≤ k → k < 2 ^ 62 → xs.length * k.toNat ≤ sizeLine → OkR G ι γ H Q (newL m (List.replicate k.toNat xs).flatten M) → wpAny (model X.prog X.w) X.A (binaryOp op v u) (EP X pins σ Q) X.xe s) := by
    rintro rfl xs k h1 rfl h0 h2 hz o
    obtain ⟨la, za, rfl, da, sa⟩ := itemsL_at R h1 ra
    cases rb
    obtain ⟨_, kk⟩ := newL_at R (sa.rep k.toNat) o
    exact op_repR pins s σ H _ _ v u Q I rx ry ⟨la, k, za, rfl, rfl, da, by omega, by omega, by rw [← sa.length]; exact hz, kk⟩
  have bad : ∀ {r : Res Va}, r = .bad → OkR G ι γ H Q r → False := fun e o => by rw [e] at o; exact o
  unfold opB at ok
  split at ok
  · cases ra; cases rb
    exact op_add pins s σ H _ _ v u Q I rx ry ⟨_, _, rfl, rfl, fin ok (.int _)⟩
  · cases ra; cases rb
    exact op_sub pins s σ H _ _ v u Q I rx ry ⟨_, _, rfl, rfl, fin ok (.int _)⟩
  · cases ra; cases rb
    split at ok
    · rename_i hm
      rcases mulOk_cases hm with hm | hm
      · exact op_mul pins s σ H _ _ v u Q I rx ry ⟨_, _, rfl, rfl, hm, fin ok (.int _)⟩
      · exact op_mulW pins s σ H _ _ v u Q I rx ry ⟨_, _, rfl, rfl, hm, fin ok (.int _)⟩
    · exact ok.elim
  · cases ra; cases rb
    split at ok
    · rename_i hm
      exact op_mod pins s σ H _ _ v u Q I rx ry ⟨_, _, rfl, rfl, hm, fin ok (.int _)⟩
    · exact ok.elim
  · cases ra; cases rb
    split at ok
    · rename_i hm
      exact op_fdivW pins s σ H _ _ v u Q I rx ry ⟨_, _, rfl, rfl, hm, fin ok (.int _)⟩
    · exact ok.elim
  · cases ra; cases rb
    split at ok
    · rename_i hm
      exact op_pow pins s σ H _ _ v u Q I rx ry ⟨_, _, rfl, rfl, hm, fin ok (.int _)⟩
    · exact ok.elim
  · cases ra; cases rb
    split at ok
    · rename_i xa xb hm
      refine op_add_str pins s σ H _ _ v u Q I rx ry ⟨_, _, rfl, rfl, by simpa [Str.length] using hm, ?_⟩
      have e : (⟨xa.toArray⟩ : Str) ++ (⟨xb.toArray⟩ : Str) = ⟨(xa ++ xb).toArray⟩ := by
        show Str.mk (xa.toArray ++ xb.toArray) = _
        simp
      rw [e]
      exact fin ok (.str _)
    · exact ok.elim
  · cases ra with
    | tup na ha sa =>
      cases rb with
      | tup nb hb sb =>
        split at ok
        · rename_i hm
          refine op_catA pins s σ H _ _ v u Q I rx ry ⟨_, _, _, _, rfl, rfl, SqT.of ha, SqT.of hb, by rw [← sa.length, ← sb.length]; exact hm, fun e => ?_, fun _ e => ?_, fun _ _ p hp => ?_⟩
          · subst e
            cases sa
            exact fin ok (.tup nb hb sb)
          · subst e
            cases sb
            rw [List.append_nil] at ok
            exact fin ok (.tup na ha sa)
          · exact ok ι _ _ (Ext.val hp) (R.val hp) (.tup (R.fresh hp) upd_same ((sa.append sb).mono (Ext.val hp)))
        · exact ok.elim
  · cases ra with
    | tup na ha sa =>
      cases rb
      split at ok
      · rename_i xs k hm
        obtain ⟨h0, h1, hz⟩ := hm
        refine op_mulT pins s σ H _ _ v u Q I rx ry ⟨_, _, _, rfl, rfl, ha, h0, h1, by rw [← sa.length]; exact hz, fun e => ?_, fun _ p hp => ?_⟩
        · rcases e with e | e
          · subst e
            cases sa
            rw [rep_nil] at ok
            exact fin ok (.tup na ha .nil)
          · subst e
            rw [show (1 : Int).toNat = 1 from rfl, rep_one] at ok
            exact fin ok (.tup na ha sa)
        · exact ok ι _ _ (Ext.val hp) (R.val hp) (.tup (R.fresh hp) upd_same ((sa.rep _).mono (Ext.val hp)))
      · exact ok.elim
  · split at ok
    · rename_i xs e1
      split at ok
      · rename_i hm
        exact reps rfl xs _ e1 rfl hm.1 hm.2.1 hm.2.2 ok
      · exact ok.elim
    · exact ok.elim
  · split at ok
    · rename_i xs ys e1 e2
      split at ok
      · rename_i hm
        exact lists rfl xs ys e1 e2 hm ok
      · exact ok.elim
    · exact ok.elim
  · exact ok.elim

/-! ### comparisons -/
def rC (G : Glo) (op : CmpOp) : R2 := fun x y H Q => ∃ ι γ M v w b, RM G ι γ M H ∧ RV ι γ H v x ∧ RV ι γ H w y ∧ opC op v w M = some b ∧ Q (.bl b) H
mutual
def vdat : Va → PyData
  | .non => .none
  | .bl b => .bool b
  | .int i => .int i
  | .str s => .str ⟨s.toArray⟩
  | .tup xs => .tuple (vdats xs)
  | .lst xs => .list (vdats xs)
  | .ref _ => .none
def vdats : List Va → List PyData
  | [] => []
  | x :: xs => vdat x :: vdats xs
end
theorem str_beq (x y : List Nat) : ((⟨x.toArray⟩ : Str) == ⟨y.toArray⟩) = (x == y) := by
  rw [Bool.eq_iff_iff, beq_iff_eq, beq_iff_eq]
  constructor
  · intro h
    have := congrArg Str.cps h
    simpa using this
  · intro h
    rw [h]
mutual
theorem eqv_vdat : ∀ (v w : Va), vpure v = true → vpure w = true → PyData.eqv (vdat v) (vdat w) = veq v w
  | .non, w, _, hw => by cases w <;> simp_all [vdat, veq, PyData.eqv, vpure]
  | .bl b, w, _, hw => by cases w <;> simp_all [vdat, veq, PyData.eqv, vpure]
  | .int i, w, _, hw => by cases w <;> simp_all [vdat, veq, PyData.eqv, vpure]
  | .str s, w, _, hw => by cases w <;> simp_all [vdat, veq, PyData.eqv, vpure, str_beq]
  | .tup xs, w, hv, hw => by
    cases w with
    | tup ys =>
      simp only [vdat, veq, PyData.eqv]
      exact eqv_vdats xs ys (by simpa [vpure] using hv) (by simpa [vpure] using hw)
    | _ => simp_all [vdat, veq, PyData.eqv, vpure]
  | .lst xs, w, hv, hw => by
    cases w with
    | lst ys =>
      simp only [vdat, veq, PyData.eqv]
      exact eqv_vdats xs ys (by simpa [vpure] using hv) (by simpa [vpure] using hw)
    | _ => simp_all [vdat, veq, PyData.eqv, vpure]
  | .ref n, w, hv, _ => by simp [vpure] at hv
theorem eqv_vdats : ∀ (vs ws : List Va), vpures vs = true → vpures ws = true → PyData.eqvAll (vdats vs) (vdats ws) = veqs vs ws
  | [], ws, _, _ => by cases ws <;> simp [vdats, veqs, PyData.eqvAll]
  | v :: vs, [], _, _ => by simp [vdats, veqs, PyData.eqvAll]
  | v :: vs, w :: ws, hv, hw => by
    simp only [vpures, Bool.and_eq_true] at hv hw
    simp only [vdats, veqs, PyData.eqvAll]
    rw [eqv_vdat v w hv.1 hw.1, eqv_vdats vs ws hv.2 hw.2]
end
mutual
theorem lay_vdat : ∀ v : Va, vpure v = true → (vdat v).canLay0 = true
  | .non, _ => rfl
  | .bl _, _ => rfl
  | .int _, _ => rfl
  | .str s, h => by simpa [vdat, PyData.canLay0, vpure] using h
  | .tup xs, h => by
    simp only [vdat, PyData.canLay0]
    exact lay_vdats xs (by simpa [vpure] using h)
  | .lst xs, h => by
    simp only [vdat, PyData.canLay0]
    exact lay_vdats xs (by simpa [vpure] using h)
  | .ref _, _ => rfl
theorem lay_vdats : ∀ vs : List Va, vpures vs = true → PyData.canLayAll0 (vdats vs) = true
  | [], _ => rfl
  | v :: vs, h => by
    simp only [vpures, Bool.and_eq_true] at h
    simp only [vdats, PyData.canLayAll0, Bool.and_eq_true]
    exact ⟨lay_vdat v h.1, lay_vdats vs h.2⟩
end
mutual
theorem dep_vdat : ∀ v : Va, (vdat v).depth = vdep v
  | .non => rfl
  | .bl _ => rfl
  | .int _ => rfl
  | .str s => by simp [vdat, vdep, PyData.depth]
  | .tup xs => by simp only [vdat, vdep, PyData.depth]; rw [dep_vdats xs]
  | .lst xs => by simp only [vdat, vdep, PyData.depth]; rw [dep_vdats xs]
  | .ref _ => rfl
theorem dep_vdats : ∀ vs : List Va, PyData.depthAll (vdats vs) = vdeps vs
  | [] => rfl
  | v :: vs => by simp only [vdats, vdeps, PyData.depthAll]; rw [dep_vdat v, dep_vdats vs]
end
theorem okD_shaped {v : Va} (h : okD v = true) : SeqAt.shaped (vdat v) = true := by
  simp only [okD, Bool.and_eq_true, decide_eq_true_eq] at h
  unfold SeqAt.shaped
  rw [lay_vdat v h.1, dep_vdat v, decide_eq_true h.2]
  rfl
section
variable {ι γ : List Addr} {M : Mem} {H : Hp} {K : PySem.W.Frag}
/-- what a reading of objects must say -/
def RdOk (ι γ : List Addr) (H : Hp) (K : PySem.W.Frag) (f : Nat → Option Va) : Prop := ∀ n a v, ι[n]? = some a → f n = some v → Dp K H (.ref a) (vdat v)
mutual
theorem dp_read {f : Nat → Option Va} (hf : RdOk ι γ H K f) : ∀ (v : Va) (x : V) (w : Va), RV ι γ H v x → vread f v = some w → Dp K H x (vdat w)
  | .non, _, _, r, e => by cases r; simp only [vread, Option.some.injEq] at e; subst e; exact .non
  | .bl b, _, _, r, e => by cases r; simp only [vread, Option.some.injEq] at e; subst e; exact .bl b
  | .int i, _, _, r, e => by cases r; simp only [vread, Option.some.injEq] at e; subst e; exact .int i
  | .str s, _, _, r, e => by cases r; simp only [vread, Option.some.injEq] at e; subst e; exact .str _
  | .tup xs, _, _, r, e => by
    cases r with
    | tup n h s =>
      simp only [vread] at e
      cases q : vreads f xs with
      | none => rw [q] at e; cases e
      | some zs =>
        rw [q] at e
        simp only [Option.map_some, Option.some.injEq] at e
        subst e
        exact .tup (SqT.of h) (dp_reads hf xs _ zs s q)
  | .lst xs, _, _, r, e => by
    cases r with
    | lst n h s =>
      simp only [vread] at e
      cases q : vreads f xs with
      | none => rw [q] at e; cases e
      | some zs =>
        rw [q] at e
        simp only [Option.map_some, Option.some.injEq] at e
        subst e
        exact .lst (.inl h) (dp_reads hf xs _ zs s q)
  | .ref n, _, _, r, e => by
    cases r with
    | ref h => exact hf n _ _ h e
theorem dp_reads {f : Nat → Option Va} (hf : RdOk ι γ H K f) : ∀ (vs : List Va) (xs : List V) (ws : List Va), RVs ι γ H vs xs → vreads f vs = some ws → DpAll K H xs (vdats ws)
  | [], _, _, r, e => by cases r; simp only [vreads, Option.some.injEq] at e; subst e; exact .nil
  | v :: vs, _, _, r, e => by
    cases r with
    | cons r1 r2 =>
      simp only [vreads] at e
      split at e
      · rename_i y ys e1 e2
        simp only [Option.some.injEq] at e
        subst e
        exact .cons (dp_read hf v _ y r1 e1) (dp_reads hf vs _ ys r2 e2)
      · cases e
end
theorem rd0_ok : RdOk ι γ H K rd0 := fun n a v _ h => by cases h
theorem rd1_ok (R : RM G ι γ M H) {g : Nat → Option Va} (hg : RdOk ι γ H K g) : RdOk ι γ H K (rd1 g M) := fun n a v hn h => by
  unfold rd1 at h
  split at h
  · rename_i xs q
    cases q2 : vreads g xs with
    | none => rw [q2] at h; cases h
    | some zs =>
      rw [q2] at h
      simp only [Option.map_some, Option.some.injEq] at h
      subst h
      obtain ⟨ys, h1, h2⟩ := R.at_ n _ a q hn
      exact .lst (SqL.of h1) (dp_reads hg xs _ zs h2 q2)
  · cases h
theorem rdM_ok (R : RM G ι γ M H) : RdOk ι γ H K (rdM M) := rd1_ok R (rd1_ok R (rd1_ok R rd0_ok))
theorem eqC_at (R : RM G ι γ M H) {v w : Va} {x y : V} {b : Bool} (rv : RV ι γ H v x) (rw' : RV ι γ H w y) (h : eqC M v w = some b) :
    ∃ d e, Dp K H x d ∧ Dp K H y e ∧ SeqAt.shaped d = true ∧ SeqAt.shaped e = true ∧ PyData.eqv d e = b := by
  unfold eqC at h
  split at h
  · rename_i a c e1 e2
    split at h
    · rename_i hk
      rw [Bool.and_eq_true] at hk
      simp only [Option.some.injEq] at h
      refine ⟨vdat a, vdat c, dp_read (rdM_ok R) v x a rv e1, dp_read (rdM_ok R) w y c rw' e2, okD_shaped hk.1, okD_shaped hk.2, ?_⟩
      have h1 := hk.1
      have h2 := hk.2
      simp only [okD, Bool.and_eq_true] at h1 h2
      rw [eqv_vdat a c h1.1 h2.1, h]
    · cases h
  · cases h
end
end
end Dn
namespace Dn
open PySem PySem.Spec L2 PyProof.Rows
/-! ### dicts -/
theorem kyS_inj {a b : Sum Int (List Nat)} (h : kyS a = kyS b) : a = b := by
  cases a <;> cases b <;> simp [kyS] at h ⊢ <;> exact h
theorem kyS_map_inj : ∀ {a b : List (Sum Int (List Nat))}, a.map kyS = b.map kyS → a = b
  | [], [], _ => rfl
  | [], _ :: _, h => by simp at h
  | _ :: _, [], h => by simp at h
  | x :: xs, y :: ys, h => by
    simp only [List.map_cons, List.cons.injEq] at h
    rw [kyS_inj h.1, kyS_map_inj h.2]
section
variable {κ κ' : Type} [DecidableEq κ] [DecidableEq κ'] {f : κ → κ'} {ι γ : List Addr} {H : Hp}
/-- what is found in both -/
def RVo (ι γ : List Addr) (H : Hp) : Option Va → Option V → Prop
  | some v, some x => RV ι γ H v x
  | none, none => True
  | _, _ => False
theorem RVo.isSome {o : Option Va} {p : Option V} (h : RVo ι γ H o p) : o.isSome = p.isSome := by
  cases o <;> cases p <;> first | rfl | exact h.elim
theorem RKV.look (inj : ∀ a b, f a = f b → a = b) (k : κ) : ∀ {l : List (κ × Va)} {m : List (κ' × V)}, RKV f ι γ H l m → RVo ι γ H (look l k) (valV m (f k))
  | _, _, .nil => trivial
  | (a, v) :: l, _, .cons h r => by
    by_cases e : a = k
    · subst e
      rw [valV_pos rfl]
      simp only [Dn.look, if_pos]
      exact h
    · rw [valV_neg (fun z => e (inj _ _ z))]
      simp only [Dn.look, if_neg e]
      exact RKV.look inj k r
theorem putK_nil (k : κ') (x : V) : putK ([] : List (κ' × V)) k x = [(k, x)] := by
  unfold putK
  simp
theorem putK_pos {m : List (κ' × V)} {a : κ'} {y x : V} (hn : ∀ p ∈ m, p.1 ≠ a) : putK ((a, y) :: m) a x = (a, x) :: m := by
  unfold putK
  simp only [List.any_cons, decide_true, Bool.true_or, if_true, List.map_cons]
  congr 1
  have : ∀ p ∈ m, (if p.1 = a then (p.1, x) else p) = p := fun p hp => if_neg (hn p hp)
  exact (List.map_congr_left this).trans (by simp)
theorem putK_neg {m : List (κ' × V)} {a k : κ'} {y x : V} (h : ¬ a = k) : putK ((a, y) :: m) k x = (a, y) :: putK m k x := by
  unfold putK
  simp only [List.any_cons, decide_eq_false h, Bool.false_or]
  split
  · simp [h]
  · simp
theorem RKV.put (inj : ∀ a b, f a = f b → a = b) (k : κ) {v : Va} {x : V} (hv : RV ι γ H v x) : ∀ {l : List (κ × Va)} {m : List (κ' × V)}, (m.map (·.1)).Nodup → RKV f ι γ H l m → RKV f ι γ H (put l k v) (putK m (f k) x)
  | _, _, _, .nil => by
    rw [putK_nil]
    exact .cons hv .nil
  | (a, u) :: l, _, nd, .cons h r => by
    rw [List.map_cons, List.nodup_cons] at nd
    by_cases e : a = k
    · subst e
      rw [putK_pos fun p hp q => nd.1 (List.mem_map.mpr ⟨p, hp, q⟩)]
      simp only [Dn.put, if_pos]
      exact .cons hv r
    · rw [putK_neg (fun z => e (inj _ _ z))]
      simp only [Dn.put, if_neg e]
      exact .cons h (RKV.put inj k hv nd.2 r)
end
section
variable {G : Glo} {ι γ : List Addr} {M : Mem} {H : Hp}
theorem key_rv {v : Va} {x : V} {k : Sum Int (List Nat)} (h : keyOf v = some k) (r : RV ι γ H v x) : x = kV (kyS k) := by
  cases r <;> simp only [keyOf] at h <;> first | (cases h; done) | (simp only [Option.some.injEq] at h; subst h; rfl)
theorem keys_rv : ∀ {vs : List Va} {xs : List V} {ks : List (Sum Int (List Nat))}, keysOf vs = some ks → RVs ι γ H vs xs → xs = (ks.map kyS).map kV
  | [], _, ks, h, r => by
    cases r
    simp only [keysOf, Option.some.injEq] at h
    subst h
    rfl
  | v :: vs, _, ks, h, r => by
    cases r with
    | cons r1 r2 =>
      simp only [keysOf] at h
      split at h
      · rename_i k ks' e1 e2
        simp only [Option.some.injEq] at h
        subst h
        rw [List.map_cons, List.map_cons, key_rv e1 r1, keys_rv e2 r2]
      · cases h
theorem dget_at (R : RM G ι γ M H) {n : Nat} {a : Addr} {k : Va} {y : V} {o : Option Va} (hn : ι[n]? = some a) (rk : RV ι γ H k y) (h : dget M n k = some o) : ∃ p, DGet H a y p ∧ RVo ι γ H o p := by
  unfold dget at h
  split at h
  · rename_i kvs i q
    simp only [Option.some.injEq] at h
    subst h
    cases rk
    obtain ⟨m, h1, h2⟩ := R.at_ n _ a q hn
    exact ⟨_, DGet.k (k := Sum.inl i) h1, h2.look (fun _ _ => kyS_inj) (Sum.inl i)⟩
  · rename_i kvs s q
    simp only [Option.some.injEq] at h
    subst h
    cases rk
    obtain ⟨m, h1, h2⟩ := R.at_ n _ a q hn
    exact ⟨_, DGet.k (k := Sum.inr ⟨s.toArray⟩) h1, h2.look (fun _ _ => kyS_inj) (Sum.inr s)⟩
  · rename_i kvs vs q
    cases e : keysOf vs with
    | none => rw [e] at h; cases h
    | some ks =>
      rw [e] at h
      simp only [Option.map_some, Option.some.injEq] at h
      subst h
      cases rk with
      | tup nb hb sb =>
        obtain ⟨m, h1, h2⟩ := R.at_ n _ a q hn
        rw [keys_rv e sb] at hb
        exact ⟨_, DGet.t (k := ks.map kyS) h1 hb, h2.look (fun _ _ => kyS_map_inj) ks⟩
  · cases h
end
section
variable {X : Cx} {G : Glo}
theorem flat_rv {ι γ : List Addr} {H : Hp} {v : Va} {x : V} (h : flat v = true) (r : RV ι γ H v x) : flatV x = true := by
  cases r <;> first | rfl | (simp [flat] at h)
theorem flats_rv {ι γ : List Addr} {H : Hp} : ∀ {vs : List Va} {xs : List V}, vs.all flat = true → RVs ι γ H vs xs → xs.all flatV = true
  | _, _, _, .nil => rfl
  | _, _, h, .cons r s => by
    simp only [List.all_cons, Bool.and_eq_true] at h ⊢
    exact ⟨flat_rv h.1 r, flats_rv h.2 s⟩
theorem eqV_rv {ι γ : List Addr} {H : Hp} {v w : Va} {x y : V} (h : flat v = true) (h' : flat w = true) (r : RV ι γ H v x) (r' : RV ι γ H w y) : eqV x y = veq v w := by
  cases r <;> cases r' <;> first | (simp [eqV, veq, str_beq]; done) | (simp [flat] at h; done) | (simp [flat] at h'; done)
theorem any_rv {ι γ : List Addr} {H : Hp} {v : Va} {x : V} (h : flat v = true) (r : RV ι γ H v x) : ∀ {ws : List Va} {ys : List V}, ws.all flat = true → RVs ι γ H ws ys → inV x ys = ws.any fun y => veq y v
  | _, _, _, .nil => rfl
  | _, _, h', .cons r' s => by
    simp only [List.all_cons, Bool.and_eq_true] at h'
    unfold inV
    rw [List.any_cons, List.any_cons, eqV_rv h'.1 h r' r]
    congr 1
    exact any_rv h r h'.2 s
theorem op_inD (hu : X.A.units + 64 < cLine) (ng : Bool) : OpR X (compareOp (if ng then .NotIn else .In)) (fun x y H Q => ∃ ι γ M v w b, RM G ι γ M H ∧ RV ι γ H v x ∧ RV ι γ H w y ∧ opIn v w M = some b ∧ Q (.bl (if ng then !b else b)) H) := by
  intro pins s σ H x y v u Q I rx ry h
  obtain ⟨ι, γ, M, a, w, b, R, ra, rw', e, q⟩ := h
  have seq : ∀ {p : Addr} {ys : List V} {ws : List Va}, y = .ref p → (SqL X.K H p ys ∨ SqT X.K H p ys) → RVs ι γ H ws ys → (if flat a && ws.all flat then some (ws.any fun y => veq y a) else none) = some b →
      wpAny (model X.prog X.w) X.A (compareOp (if ng then .NotIn else .In) v u) (EP X pins σ Q) X.xe s := by
    intro p ys ws ey hs rs he
    split at he
    · rename_i hf
      rw [Bool.and_eq_true] at hf
      simp only [Option.some.injEq] at he
      have q' : rIn X.K ng x y H Q := by
        refine ⟨p, ys, ey, hs, flat_rv hf.1 ra, flats_rv hf.2 rs, ?_⟩
        rw [any_rv hf.1 ra hf.2 rs, he]
        exact q
      cases ng with
      | false => exact op_in_seq pins s σ H x y v u Q I rx ry q'
      | true => exact op_notIn_seq pins s σ H x y v u Q I rx ry q'
    · cases he
  have dic : ∀ {n : Nat} {p : Addr}, y = .ref p → ι[n]? = some p → (dget M n a).map (·.isSome) = some b → wpAny (model X.prog X.w) X.A (compareOp (if ng then .NotIn else .In) v u) (EP X pins σ Q) X.xe s := by
    intro n p ey hn he
    cases e1 : dget M n a with
    | none => rw [e1] at he; cases he
    | some o =>
      rw [e1] at he
      simp only [Option.map_some, Option.some.injEq] at he
      subst ey
      obtain ⟨p', g, ro⟩ := dget_at R hn ra e1
      obtain rfl : u = Value.ref p := ry
      have hb : p'.isSome = b := by rw [← ro.isSome]; exact he
      have hu1 : X.A.units + 1 < cLine := by omega
      cases ng with
      | false => exact d_in hu1 I g rx fun s' J => ⟨.bl b, H, J, by rw [hb]; rfl, q⟩
      | true => exact d_notIn hu1 I g rx fun s' J => ⟨.bl (!b), H, J, by rw [hb]; rfl, q⟩
  unfold opIn at e
  split at e
  · cases rw' with
    | tup n h1 s1 => exact seq rfl (.inr (SqT.of h1)) s1 e
  · cases rw' with
    | lst n h1 s1 => exact seq rfl (.inl (.inl h1)) s1 e
  · rename_i z
    cases rw'
    split at e
    · rename_i c
      cases ra
      simp only [Option.some.injEq] at e
      have hc : decide (c ∈ z) = b := by
        rw [← e, Bool.eq_iff_iff, decide_eq_true_eq, List.any_eq_true]
        constructor
        · intro hm
          exact ⟨c, hm, by simp⟩
        · rintro ⟨d, hm, hd⟩
          rw [← beq_iff_eq.mp hd]
          exact hm
      cases ng with
      | false => exact op_in_sign pins s σ H _ _ v u Q I rx ry ⟨c, _, rfl, rfl, by dsimp only; rw [hc]; exact q⟩
      | true => exact op_notIn_sign pins s σ H _ _ v u Q I rx ry ⟨c, _, rfl, rfl, by dsimp only; rw [hc]; exact q⟩
    · cases e
  · rename_i n
    cases rw' with
    | ref hn =>
      split at e
      · rename_i xs q1
        obtain ⟨ys, h1, h2⟩ := R.at_ _ _ _ q1 hn
        exact seq rfl (.inl (SqL.of h1)) h2 e
      · exact dic rfl hn e
  · cases e
theorem eqL_at {ι γ : List Addr} {M : Mem} {H : Hp} {K : PySem.W.Frag} (R : RM G ι γ M H) {v w : Va} {x y : V} {b : Bool} (rv : RV ι γ H v x) (rw' : RV ι γ H w y) (h : eqL M v w = some b) :
    (∃ d e, Dp K H x d ∧ Dp K H y e ∧ SeqAt.shaped d = true ∧ SeqAt.shaped e = true ∧ PyData.eqv d e = b) ∨ (∃ s t, x = .str s ∧ y = .str t ∧ decide (x = y) = b) ∨
    (b = false ∧ ∃ p q xs ys, x = .ref p ∧ y = .ref q ∧ Rd H p (.lst xs) ∧ Rd H q (.lst ys) ∧ xs.length ≠ ys.length) := by
  unfold eqL at h
  split at h
  · rename_i b' e
    cases h
    exact .inl (eqC_at R rv rw' e)
  · split at h
    · rename_i a c
      cases rv; cases rw'
      cases h
      refine .inr (.inl ⟨_, _, rfl, rfl, ?_⟩)
      rw [Bool.eq_iff_iff, decide_eq_true_eq, beq_iff_eq]
      constructor
      · intro z
        injection z with z
        have := congrArg Str.cps z
        simpa using this
      · intro z
        rw [z]
    · split at h
      · rename_i xs ys e1 e2
        split at h
        · cases h
        · rename_i hl
          cases h
          obtain ⟨p, us, ex, hp, ru⟩ := itemsL_at R e1 rv
          obtain ⟨q, ws, ey, hq, rw2⟩ := itemsL_at R e2 rw'
          exact .inr (.inr ⟨rfl, p, q, us, ws, ex, ey, hp, hq, by rw [← ru.length, ← rw2.length]; exact hl⟩)
      · cases h
theorem op_len (hu : X.A.units + 64 < cLine) (ng : Bool) : OpR X (compareOp (if ng then .NotEq else .Eq)) (fun x y H Q => ∃ p q xs ys, x = .ref p ∧ y = .ref q ∧ Rd H p (.lst xs) ∧ Rd H q (.lst ys) ∧ xs.length ≠ ys.length ∧ Q (.bl ng) H) := by
  intro pins s σ H x y v u Q I rx ry h
  obtain ⟨p, q, xs, ys, rfl, rfl, hp, hq, hne, k⟩ := h
  obtain rfl : v = Value.ref p := rx
  obtain rfl : u = Value.ref q := ry
  obtain ⟨_, its, n, _, hl, e⟩ := rdLst I hp
  obtain ⟨_, its2, n2, _, hl2, e2⟩ := rdLst I hq
  have hsz : (its.toArray.size != its2.toArray.size) = true := by
    rw [List.size_toArray, List.size_toArray, bne_iff_ne, ← hl, ← hl2]
    exact hne
  cases ng with
  | false => exact PySem.SeqAt.eq_list_lengthsAt (PySem.IsL.isList e) (PySem.IsL.isList e2) hsz (by omega) ⟨.bl false, H, I, rfl, k⟩
  | true => exact PySem.SeqAt.RcNeAt.lists_lengths (PySem.IsL.isList e) (PySem.IsL.isList e2) hsz (by omega) X.prog X.w X.xe _ ⟨.bl true, H, I, rfl, k⟩
theorem op_cmpD (hu : X.A.units + 64 < cLine) (op : CmpOp) : OpR X (compareOp op) (rC G op) := by
  intro pins s σ H x y v u Q I rx ry h
  obtain ⟨ι, γ, M, a, b, k, R, ra, rb, e, q⟩ := h
  unfold opC at e
  split at e
  · rcases eqL_at (K := X.K) R ra rb e with ⟨d, d', h1, h2, h3, h4, h5⟩ | ⟨z, t, e1, e2, h5⟩ | ⟨h5, p, q', xs, ys, h1, h2, h3, h4, h6⟩
    · exact op_eqD hu pins s σ H x y v u Q I rx ry ⟨d, d', h1, h2, h3, h4, by rw [h5]; exact q⟩
    · exact op_eq pins s σ H x y v u Q I rx ry ⟨by rw [e1, e2]; rfl, by rw [h5]; exact q⟩
    · exact op_len hu false pins s σ H x y v u Q I rx ry ⟨p, q', xs, ys, h1, h2, h3, h4, h6, by rw [← h5]; exact q⟩
  · cases e1 : eqL M a b with
    | none => rw [e1] at e; cases e
    | some k' =>
      rw [e1] at e
      simp only [Option.map_some, Option.some.injEq] at e
      rcases eqL_at (K := X.K) R ra rb e1 with ⟨d, d', h1, h2, h3, h4, h5⟩ | ⟨z, t, e1, e2, h5⟩ | ⟨h5, p, q', xs, ys, h1, h2, h3, h4, h6⟩
      · exact op_neD hu pins s σ H x y v u Q I rx ry ⟨d, d', h1, h2, h3, h4, by rw [h5, e]; exact q⟩
      · exact op_ne pins s σ H x y v u Q I rx ry ⟨by rw [e1, e2]; rfl, by rw [h5, e]; exact q⟩
      · exact op_len hu true pins s σ H x y v u Q I rx ry ⟨p, q', xs, ys, h1, h2, h3, h4, h6, by rw [h5] at e; rw [show (true : Bool) = k from e]; exact q⟩
  · split at e
    · cases ra; cases rb
      simp only [Option.some.injEq] at e
      exact op_lt pins s σ H _ _ v u Q I rx ry ⟨_, _, rfl, rfl, by dsimp only; rw [e]; exact q⟩
    · cases e
  · split at e
    · cases ra; cases rb
      simp only [Option.some.injEq] at e
      exact op_le pins s σ H _ _ v u Q I rx ry ⟨_, _, rfl, rfl, by dsimp only; rw [e]; exact q⟩
    · cases e
  · split at e
    · cases ra; cases rb
      simp only [Option.some.injEq] at e
      exact op_gt pins s σ H _ _ v u Q I rx ry ⟨_, _, rfl, rfl, by dsimp only; rw [e]; exact q⟩
    · cases e
  · split at e
    · cases ra; cases rb
      simp only [Option.some.injEq] at e
      exact op_ge pins s σ H _ _ v u Q I rx ry ⟨_, _, rfl, rfl, by dsimp only; rw [e]; exact q⟩
    · cases e
  · exact op_inD (G := G) hu false pins s σ H x y v u Q I rx ry ⟨ι, γ, M, a, b, k, R, ra, rb, e, q⟩
  · cases e1 : opIn a b M with
    | none => rw [e1] at e; cases e
    | some k' =>
      rw [e1] at e
      simp only [Option.map_some, Option.some.injEq] at e
      exact op_inD (G := G) hu true pins s σ H x y v u Q I rx ry ⟨ι, γ, M, a, b, k', R, ra, rb, e1, by simp only [if_true, e]; exact q⟩
  · cases e

/-! ### subscripts -/
def rIxD (G : Glo) : R2 := fun x y H Q => ∃ ι γ M v w z, RM G ι γ M H ∧ RV ι γ H v x ∧ RV ι γ H w y ∧ opIx v w M = some z ∧ ∀ q, RV ι γ H z q → Q q H
theorem atI_rv {ι γ : List Addr} {H : Hp} {vs : List Va} {xs : List V} {i : Int} {z : Va} (r : RVs ι γ H vs xs) (h : atI vs i = some z) : ∃ q, atI xs i = some q ∧ RV ι γ H z q := by
  unfold atI at h ⊢
  rw [← r.length]
  cases e : ixN vs.length i with
  | none => rw [e] at h; cases h
  | some j =>
    rw [e] at h
    exact r.get h
theorem ix_dict (hu : X.A.units + 1 < cLine) : IxR X (fun x y H Q => ∃ a v, x = .ref a ∧ DGet H a y (some v) ∧ Q v H) := by
  intro value slice pins s σ H x y v u Q I rx ry h hs
  obtain ⟨a, z, rfl, g, q⟩ := h
  obtain rfl : v = Value.ref a := rx
  unfold subscriptTail
  have hT := dict_typeIs I g
  refine wpAny_bind ?_
  rw [getitemInPython_of_ne hT.not_modules]
  refine wpAny_bind (wpAny_specialOf hT PySem.F.slot_dict_getitem.lookup ?_)
  have fin : wpAny (model X.prog X.w) X.A (subscripted slice false (.ref a) u) (fun r s₃ => wpAny (model X.prog X.w) X.A (letTemporaryGo value (.ref a) r >>= fun _ => pure r) (EP X pins σ Q) X.xe s₃) X.xe s := by
    rw [hs]
    refine wpAny_operating (d_getItem hu I g ry fun w' s' J rw' => ?_)
    exact wpAny_bind (wpAny_letTemporaryGo (wpAny_pure ⟨z, H, J, rw', q⟩))
  first
    | exact wpAny_pure (wpAny_bind fin)
    | exact wpAny_bind (wpAny_pure (wpAny_bind fin))
    | exact wpAny_bind fin
theorem ix_all (hu : X.A.units + 64 < cLine) : IxR X (rIxD G) := by
  intro value slice pins s σ H x y v u Q I rx ry h hs
  obtain ⟨ι, γ, M, a, b, z, R, ra, rb, e, q⟩ := h
  unfold opIx at e
  split at e
  · cases ra with
    | tup n h1 s1 =>
      cases rb
      obtain ⟨p, h2, h3⟩ := atI_rv s1 e
      exact ix_tup value slice pins s σ H _ _ v u Q I rx ry ⟨_, _, _, _, rfl, rfl, SqT.of h1, h2, q _ h3⟩ hs
  · cases ra with
    | lst n h1 s1 =>
      cases rb
      obtain ⟨p, h2, h3⟩ := atI_rv s1 e
      exact ix_list value slice pins s σ H _ _ v u Q I rx ry ⟨_, _, _, _, rfl, rfl, .inl h1, h2, q _ h3⟩ hs
  · cases ra
    cases rb
    split at e
    · rename_i hz
      obtain ⟨c, e1, e2⟩ := Option.map_eq_some_iff.mp e
      subst e2
      exact ix_str value slice pins s σ H _ _ v u Q I rx ry ⟨_, _, c, rfl, rfl, by simpa [Str.length] using hz, by simpa using e1, q _ (.str [c])⟩ hs
    · cases e
  · cases ra with
    | ref hn =>
      split at e
      · rename_i xs i q1
        cases rb
        obtain ⟨ys, h1, h2⟩ := R.at_ _ _ _ q1 hn
        obtain ⟨p, h3, h4⟩ := atI_rv h2 e
        exact ix_list value slice pins s σ H _ _ v u Q I rx ry ⟨_, _, _, _, rfl, rfl, SqL.of h1, h3, q _ h4⟩ hs
      · cases e1 : dget M _ _ with
        | none => rw [e1] at e; cases e
        | some o =>
          rw [e1] at e
          have e' : o = some z := e
          subst e'
          obtain ⟨p, g, ro⟩ := dget_at R hn rb e1
          cases p with
          | none => exact ro.elim
          | some p => exact ix_dict (by omega) value slice pins s σ H _ _ v u Q I rx ry ⟨_, _, rfl, g, q _ ro⟩ hs
  · cases e
/-! ### slices -/
def rSl (G : Glo) (m : Bool) : V → Option Int → Option Int → Hp → VK → Prop := fun x lo hi H Q => ∃ ι γ M v, RM G ι γ M H ∧ RV ι γ H v x ∧ OkR G ι γ H Q (opSl m v lo hi M)
theorem cut_rv {ι γ : List Addr} {H : Hp} {vs : List Va} {xs : List V} (r : RVs ι γ H vs xs) (lo hi : Option Int) : RVs ι γ H (cutA vs lo hi) (cutV xs lo hi) := by
  unfold cutA cutV
  rw [r.length]
  exact (r.drop _).take _
theorem cutA_whole {α : Type} {xs : List α} {lo hi : Option Int} (h : HT.sIx xs.length 0 lo = 0 ∧ HT.sIx xs.length xs.length hi = xs.length) : cutA xs lo hi = xs := by
  unfold cutA
  rw [h.1, h.2]
  simp
theorem sl_all (m : Bool) : SlR X (rSl G m) := by
  intro pins s σ H x v vl vu lo hi sl Q I rx hs pl pu h
  obtain ⟨ι, γ, M, a, R, ra, ok⟩ := h
  unfold opSl at ok
  split at ok
  · cases ra with
    | tup n h1 s1 =>
      refine sl_tupA pins s σ H _ v vl vu lo hi sl Q I rx hs pl pu ⟨_, _, rfl, SqT.of h1, fun hw => ?_, fun _ p hp => ?_⟩
      · rw [← s1.length] at hw
        rw [cutA_whole hw] at ok
        exact ok ι H _ (Ext.refl ι H) R (.tup n h1 s1)
      · exact ok ι _ _ (Ext.val hp) (R.val hp) (.tup (R.fresh hp) upd_same ((cut_rv s1 lo hi).mono (Ext.val hp)))
  · cases ra
    split at ok
    · rename_i z hz
      refine sl_str pins s σ H _ v vl vu lo hi sl Q I rx hs pl pu ⟨_, rfl, by simpa [Str.length] using hz, ?_⟩
      have e : cutS ⟨z.toArray⟩ lo hi = ⟨(cutA z lo hi).toArray⟩ := by
        first | rfl | (simp [cutS, cutA, Str.length]) 
      rw [e]
      exact ok ι H _ (Ext.refl ι H) R (.str _)
    · exact ok.elim
  · split at ok
    · rename_i xs e1
      obtain ⟨la, za, rfl, da, sa⟩ := itemsL_at R e1 ra
      have hz : (cutA xs lo hi).length ≤ sizeLine := by
        obtain ⟨z0, _⟩ := rdLst I da
        have : (cutA xs lo hi).length ≤ xs.length := by
          unfold cutA
          rw [List.length_take, List.length_drop]
          omega
        rw [sa.length] at this
        omega
      have ok' : OkR G ι γ H Q (newL m (cutA xs lo hi) M) := by
        unfold newL
        rw [if_pos hz]
        exact ok
      exact sl_list pins s σ H _ v vl vu lo hi sl Q I rx hs pl pu ⟨la, za, rfl, .inl da, (newL_at R (cut_rv sa lo hi) ok').2⟩
    · exact ok.elim
end
end Dn
namespace Dn
open PySem PySem.Spec L2 PyProof.Rows
/-! ### built-ins of one argument -/
inductive Blt where
  | len | int | str | tuple | list | sum | all | any | sorted | dict
def Blt.nm : Blt → Str
  | .len => "len" | .int => "int" | .str => "str" | .tuple => "tuple" | .list => "list" | .sum => "sum" | .all => "all" | .any => "any" | .sorted => "sorted" | .dict => "dict"
def Blt.ty : Blt → Option String
  | .int => some "int" | .str => some "str" | .tuple => some "tuple" | .list => some "list" | .dict => some "dict" | _ => none
def Blt.bi : Blt → String
  | .len => "len" | .sum => "sum" | .all => "all" | .sorted => "sorted" | _ => "any"
def Blt.val (b : Blt) : Value := match b.ty with
  | some t => .type t
  | none => .builtin b.bi
def intsOf : List Va → Option (List Int)
  | [] => some []
  | .int i :: r => (intsOf r).map (i :: ·)
  | _ :: _ => none
def blsOf : List Va → Option (List Bool)
  | [] => some []
  | .bl i :: r => (blsOf r).map (i :: ·)
  | _ :: _ => none
def strsOf : List Va → Option (List (List Nat))
  | [] => some []
  | .str i :: r => (strsOf r).map (i :: ·)
  | _ :: _ => none
/-- the keys of a dict, all texts -/
def txtKeys : List (Sum Int (List Nat) × Va) → Option (List (List Nat))
  | [] => some []
  | (.inr s, _) :: r => (txtKeys r).map (s :: ·)
  | (.inl _, _) :: _ => none
def strI (i : Int) : List Nat := ((toString i : String) : Str).cps.toList
/-- the items of a list or a tuple -/
def itemsS (M : Mem) : Va → Option (List Va)
  | .tup xs => some xs
  | v => itemsL M v
def opSort (m : Bool) (v : Va) (M : Mem) : Res Va := match v with
  | .ref n => match M[n]? with
    | some (.dic kvs) => match txtKeys kvs with
      | some ks => if ks.length < 64 then newL m ((sortW ks).map .str) M else .bad
      | none => .bad
    | some (.lst xs) => match strsOf xs with
      | some ks => if ks.length < 64 then newL m ((sortW ks).map .str) M else .bad
      | none => .bad
    | _ => .bad
  | .lst xs => match strsOf xs with
    | some ks => if ks.length < 64 then newL m ((sortW ks).map .str) M else .bad
    | none => .bad
  | _ => .bad
def opDict (v : Va) (M : Mem) : Res Va := match v with
  | .ref n => match M[n]? with
    | some (.dic kvs) => .ok (.ref M.length) (M ++ [.dic kvs])
    | _ => .bad
  | _ => .bad
def opF (b : Blt) (m : Bool) (v : Va) (M : Mem) : Res Va := match b with
  | .len => match v with
    | .str s => if s.length ≤ sizeLine then .ok (.int s.length) M else .bad
    | .ref n => match M[n]? with
      | some (.dic kvs) => .ok (.int kvs.length) M
      | some (.lst xs) => .ok (.int xs.length) M
      | _ => .bad
    | v => match itemsS M v with
      | some xs => .ok (.int xs.length) M
      | none => .bad
  | .int => match v with
    | .int i => .ok (.int i) M
    | .bl k => .ok (.int (if k then 1 else 0)) M
    | _ => .bad
  | .str => match v with
    | .int i => if i.natAbs.log2 < 1920 then .ok (.str (strI i)) M else .bad
    | _ => .bad
  | .tuple => match v with
    | .tup xs => .ok (.tup xs) M
    | v => match itemsL M v with
      | some xs => .ok (.tup xs) M
      | none => .bad
  | .list => match itemsS M v with
    | some xs => newL m xs M
    | none => .bad
  | .sum => match itemsL M v with
    | some xs => match intsOf xs with
      | some ns => .ok (.int ns.sum) M
      | none => .bad
    | none => .bad
  | .all => match itemsL M v with
    | some xs => match blsOf xs with
      | some bs => .ok (.bl (bs.all id)) M
      | none => .bad
    | none => .bad
  | .any => match itemsL M v with
    | some xs => match blsOf xs with
      | some bs => .ok (.bl (bs.any id)) M
      | none => .bad
    | none => .bad
  | .sorted => opSort m v M
  | .dict => opDict v M
section
variable {X : Cx} {G : Glo}
theorem strs_rv {ι γ : List Addr} {H : Hp} : ∀ {vs : List Va} {xs : List V} {ks : List (List Nat)}, strsOf vs = some ks → RVs ι γ H vs xs → xs = (ks.map mkS).map V.str
  | [], _, _, h, r => by cases r; simp only [strsOf, Option.some.injEq] at h; subst h; rfl
  | .str i :: vs, _, _, h, .cons r s => by
    cases r
    simp only [strsOf] at h
    obtain ⟨ms, e1, e2⟩ := Option.map_eq_some_iff.mp h
    subst e2
    rw [List.map_cons, List.map_cons, strs_rv e1 s]
    rfl
  | .non :: _, _, _, h, _ => by cases h
  | .bl _ :: _, _, _, h, _ => by cases h
  | .int _ :: _, _, _, h, _ => by cases h
  | .tup _ :: _, _, _, h, _ => by cases h
  | .lst _ :: _, _, _, h, _ => by cases h
  | .ref _ :: _, _, _, h, _ => by cases h
theorem txtKeys_rv {ι γ : List Addr} {H : Hp} : ∀ {l : List (Sum Int (List Nat) × Va)} {m : List (Key × V)} {ks : List (List Nat)}, txtKeys l = some ks → RKV kyS ι γ H l m → m.map (·.1) = (ks.map mkS).map Sum.inr
  | [], _, _, h, r => by cases r; simp only [txtKeys, Option.some.injEq] at h; subst h; rfl
  | (.inr s, _) :: l, _, _, h, .cons r t => by
    simp only [txtKeys] at h
    obtain ⟨ms, e1, e2⟩ := Option.map_eq_some_iff.mp h
    subst e2
    rw [List.map_cons, List.map_cons, List.map_cons, txtKeys_rv e1 t]
    rfl
  | (.inl _, _) :: _, _, _, h, _ => by cases h
theorem strs_rvs {ι γ : List Addr} {H : Hp} : ∀ ks : List (List Nat), RVs ι γ H (ks.map Va.str) ((ks.map mkS).map V.str)
  | [] => .nil
  | k :: ks => .cons (.str k) (strs_rvs ks)
theorem sort_len (ks : List (List Nat)) : ((sortW ks).map Va.str).length = ks.length := by rw [List.length_map, (sort_perm ks).length_eq]
theorem ints_rv {ι γ : List Addr} {H : Hp} : ∀ {vs : List Va} {xs : List V} {ns : List Int}, intsOf vs = some ns → RVs ι γ H vs xs → xs = ns.map V.int
  | [], _, _, h, r => by cases r; simp only [intsOf, Option.some.injEq] at h; subst h; rfl
  | .int i :: vs, _, _, h, .cons r s => by
    cases r
    simp only [intsOf] at h
    obtain ⟨ms, e1, e2⟩ := Option.map_eq_some_iff.mp h
    subst e2
    rw [List.map_cons, ints_rv e1 s]
  | .non :: _, _, _, h, _ => by cases h
  | .bl _ :: _, _, _, h, _ => by cases h
  | .str _ :: _, _, _, h, _ => by cases h
  | .tup _ :: _, _, _, h, _ => by cases h
  | .lst _ :: _, _, _, h, _ => by cases h
  | .ref _ :: _, _, _, h, _ => by cases h
theorem bls_rv {ι γ : List Addr} {H : Hp} : ∀ {vs : List Va} {xs : List V} {ns : List Bool}, blsOf vs = some ns → RVs ι γ H vs xs → xs = ns.map V.bl
  | [], _, _, h, r => by cases r; simp only [blsOf, Option.some.injEq] at h; subst h; rfl
  | .bl i :: vs, _, _, h, .cons r s => by
    cases r
    simp only [blsOf] at h
    obtain ⟨ms, e1, e2⟩ := Option.map_eq_some_iff.mp h
    subst e2
    rw [List.map_cons, bls_rv e1 s]
  | .non :: _, _, _, h, _ => by cases h
  | .int _ :: _, _, _, h, _ => by cases h
  | .str _ :: _, _, _, h, _ => by cases h
  | .tup _ :: _, _, _, h, _ => by cases h
  | .lst _ :: _, _, _, h, _ => by cases h
  | .ref _ :: _, _, _, h, _ => by cases h
theorem itemsS_at {ι γ : List Addr} {M : Mem} {H : Hp} (R : RM G ι γ M H) {v : Va} {x : V} {xs : List Va} (h : itemsS M v = some xs) (r : RV ι γ H v x) : ∃ a ys, x = .ref a ∧ (Rd H a (.lst ys) ∨ H a = some (.tup ys)) ∧ RVs ι γ H xs ys := by
  unfold itemsS at h
  split at h
  · simp only [Option.some.injEq] at h
    subst h
    cases r with
    | tup n h1 s1 => exact ⟨_, _, rfl, .inr h1, s1⟩
  · obtain ⟨a, ys, e1, e2, e3⟩ := itemsL_at R h r
    exact ⟨a, ys, e1, .inl e2, e3⟩
theorem callD (hc : X.calm = true) (b : Blt) (m : Bool) : CallR X b.val (fun xs H Q => ∃ ι γ M a x, xs = [x] ∧ RM G ι γ M H ∧ RV ι γ H a x ∧ OkR G ι γ H Q (opF b m a M)) := by
  intro pins s σ H xs us Q I r h
  obtain ⟨ι, γ, M, a, x, rfl, R, ra, ok⟩ := h
  have fin : ∀ {z : Va} {q : V}, OkR G ι γ H Q (.ok z M) → RV ι γ H z q → Q q H := fun o r => o ι H _ (Ext.refl ι H) R r
  cases b with
  | len =>
    show wpAny (model X.prog X.w) X.A (call (.builtin "len") us) _ _ _
    have seqs : ∀ {zs : List Va}, itemsS M a = some zs → OkR G ι γ H Q (.ok (.int zs.length) M) → wpAny (model X.prog X.w) X.A (call (.builtin "len") us) (EP X pins σ Q) X.xe s := by
      intro zs e o
      obtain ⟨p, ys, rfl, hp, rs⟩ := itemsS_at R e ra
      refine call_len_seq pins s σ H _ us Q I r ⟨p, ys, rfl, ?_, ?_⟩
      · rcases hp with hp | hp
        · exact .inl (.inl hp)
        · exact .inr (SqT.of hp)
      · rw [← rs.length]
        exact fin o (.int _)
    simp only [opF] at ok
    split at ok
    · cases ra
      split at ok
      · rename_i z hz
        refine call_len_str pins s σ H _ us Q I r ⟨_, rfl, by simpa [Str.length] using hz, ?_⟩
        have e : ((⟨z.toArray⟩ : Str).length) = z.length := by simp [Str.length]
        rw [e]
        exact fin ok (.int _)
      · exact ok.elim
    · cases ra with
      | ref hn =>
        split at ok
        · rename_i kvs q1
          obtain ⟨m', h1, h2⟩ := R.at_ _ _ _ q1 hn
          obtain ⟨u, rfl, ru⟩ := vals1 r
          obtain rfl : u = Value.ref _ := ru
          exact d_len I (.inl h1) fun t s' J => ⟨.int _, H, J, ⟨t, rfl⟩, by rw [← h2.length]; exact fin ok (.int _)⟩
        · rename_i xs q1
          exact seqs (by simp only [itemsS, itemsL, q1]) ok
        · exact ok.elim
    · split at ok
      · rename_i e
        exact seqs e ok
      · exact ok.elim
  | int =>
    show wpAny (model X.prog X.w) X.A (call (.type "int") us) _ _ _
    simp only [opF] at ok
    split at ok
    · cases ra
      exact call_int1 pins s σ H _ us Q I r (.inl ⟨_, rfl, fin ok (.int _)⟩)
    · cases ra
      exact call_int1 pins s σ H _ us Q I r (.inr ⟨_, rfl, fin ok (.int _)⟩)
    · exact ok.elim
  | str =>
    show wpAny (model X.prog X.w) X.A (call (.type "str") us) _ _ _
    simp only [opF] at ok
    split at ok
    · cases ra
      split at ok
      · rename_i i hz
        refine call_str_int pins s σ H _ us Q I r ⟨_, rfl, hz, ?_⟩
        have := fin ok (.str (strI i))
        simpa [strI] using this
      · exact ok.elim
    · exact ok.elim
  | tuple =>
    show wpAny (model X.prog X.w) X.A (call (.type "tuple") us) _ _ _
    simp only [opF] at ok
    split at ok
    · cases ra with
      | tup n h1 s1 => exact call_tuple_of pins s σ H _ us Q I r ⟨_, _, rfl, .inr ⟨SqT.of h1, fin ok (.tup n h1 s1)⟩⟩
    · split at ok
      · rename_i xs e
        obtain ⟨p, ys, rfl, hp, rs⟩ := itemsL_at R e ra
        refine call_tuple_of pins s σ H _ us Q I r ⟨_, _, rfl, .inl ⟨.inl hp, fun l hl => ?_⟩⟩
        exact ok ι _ _ (Ext.val hl) (R.val hl) (.tup (R.fresh hl) upd_same (rs.mono (Ext.val hl)))
      · exact ok.elim
  | list =>
    show wpAny (model X.prog X.w) X.A (call (.type "list") us) _ _ _
    simp only [opF] at ok
    split at ok
    · rename_i xs e
      obtain ⟨p, ys, rfl, hp, rs⟩ := itemsS_at R e ra
      refine call_list_of pins s σ H _ us Q I r ⟨p, ys, rfl, ?_, (newL_at R rs ok).2⟩
      rcases hp with hp | hp
      · exact .inl (.inl hp)
      · exact .inr (SqT.of hp)
    · exact ok.elim
  | sum =>
    show wpAny (model X.prog X.w) X.A (call (.builtin "sum") us) _ _ _
    simp only [opF] at ok
    split at ok
    · rename_i xs e
      split at ok
      · rename_i ns e2
        obtain ⟨p, ys, rfl, hp, rs⟩ := itemsL_at R e ra
        rw [ints_rv e2 rs] at hp
        exact cr_sum hc pins s σ H _ us Q I r ⟨p, ns, rfl, .inl hp, fin ok (.int _)⟩
      · exact ok.elim
    · exact ok.elim
  | all =>
    show wpAny (model X.prog X.w) X.A (call (.builtin "all") us) _ _ _
    simp only [opF] at ok
    split at ok
    · rename_i xs e
      split at ok
      · rename_i ns e2
        obtain ⟨p, ys, rfl, hp, rs⟩ := itemsL_at R e ra
        rw [bls_rv e2 rs] at hp
        exact cr_all hc pins s σ H _ us Q I r ⟨p, ns, rfl, .inl hp, fin ok (.bl _)⟩
      · exact ok.elim
    · exact ok.elim
  | any =>
    show wpAny (model X.prog X.w) X.A (call (.builtin "any") us) _ _ _
    simp only [opF] at ok
    split at ok
    · rename_i xs e
      split at ok
      · rename_i ns e2
        obtain ⟨p, ys, rfl, hp, rs⟩ := itemsL_at R e ra
        rw [bls_rv e2 rs] at hp
        exact cr_any hc pins s σ H _ us Q I r ⟨p, ns, rfl, .inl hp, fin ok (.bl _)⟩
      · exact ok.elim
    · exact ok.elim
  | sorted =>
    show wpAny (model X.prog X.w) X.A (call (.builtin "sorted") us) _ _ _
    simp only [opF] at ok
    have lists : ∀ {p : Addr} {ys : List V} {zs : List Va} {ks : List (List Nat)}, x = .ref p → Rd H p (.lst ys) → RVs ι γ H zs ys → strsOf zs = some ks → OkR G ι γ H Q (if ks.length < 64 then newL m ((sortW ks).map .str) M else .bad) → wpAny (model X.prog X.w) X.A (call (.builtin "sorted") us) (EP X pins σ Q) X.xe s := by
      intro p ys zs ks ex hp rs e o
      subst ex
      split at o
      · rename_i hlt
        rw [strs_rv e rs] at hp
        refine cr_sortedS pins s σ H _ us Q I r ⟨p, ks.map mkS, rfl, .inl hp, by rw [List.length_map]; exact hlt, fun zs l pe so hl => ?_⟩
        rw [sortedS_unique pe so]
        exact (newL_at R (strs_rvs (sortW ks)) o).2 l hl
      · exact o.elim
    unfold opSort at ok
    split at ok
    · rename_i n
      cases ra with
      | ref hn =>
        split at ok
        · rename_i kvs q1
          obtain ⟨m', h1, h2⟩ := R.at_ _ _ _ q1 hn
          split at ok
          · rename_i ks e
            split at ok
            · rename_i hlt
              refine call_sortedD hc pins s σ H _ us Q I r ⟨_, m', ks.map mkS, rfl, .inl h1, txtKeys_rv e h2, by rw [List.length_map]; exact hlt, fun zs l pe so hl => ?_⟩
              rw [sortedS_unique pe so]
              exact (newL_at R (strs_rvs (sortW ks)) ok).2 l hl
            · exact ok.elim
          · exact ok.elim
        · rename_i xs q1
          obtain ⟨ys, h1, h2⟩ := R.at_ _ _ _ q1 hn
          split at ok
          · rename_i ks e
            exact lists rfl (.inl h1) h2 e ok
          · exact ok.elim
        · exact ok.elim
    · cases ra with
      | lst n h1 s1 =>
        split at ok
        · rename_i ks e
          exact lists rfl h1 s1 e ok
        · exact ok.elim
    · exact ok.elim
  | dict =>
    show wpAny (model X.prog X.w) X.A (call (.type "dict") us) _ _ _
    simp only [opF] at ok
    unfold opDict at ok
    split at ok
    · cases ra with
      | ref hn =>
        split at ok
        · rename_i kvs q1
          obtain ⟨m', h1, h2⟩ := R.at_ _ _ _ q1 hn
          refine call_dictD pins s σ H _ us Q I r ⟨_, m', rfl, .inl h1, fun l hl => ?_⟩
          have e := Ext.obj (ι := ι) (o := HO.dK m') hl
          refine ok (ι ++ [l]) _ _ e (R.obj hl ⟨m', upd_same, h2.mono e⟩) (.ref ?_)
          rw [List.getElem?_append_right (by rw [R.len]; exact Nat.le_refl _), R.len, Nat.sub_self]
          rfl
        · exact ok.elim
    · exact ok.elim
/-! ### isinstance of built-in classes -/
/-- the class of a value, by name -/
def tyOf (M : Mem) : Va → Option String
  | .non => some "NoneType" | .bl _ => some "bool" | .int _ => some "int" | .str _ => some "str" | .tup _ => some "tuple" | .lst _ => some "list"
  | .ref n => match M[n]? with
    | some (.lst _) => some "list"
    | some (.dic _) => some "dict"
    | some (.dit _) => some "dict"
    | _ => none
inductive Ty where
  | int | bool | str | tuple | list | dict
  deriving DecidableEq
def Ty.nm : Ty → String
  | .int => "int" | .bool => "bool" | .str => "str" | .tuple => "tuple" | .list => "list" | .dict => "dict"
def isT (v : String) (t : Ty) : Bool := v == t.nm || (v == "bool" && t == .int)
end
end Dn
namespace Dn
open PySem PySem.Spec L2 PyProof.Rows
/-! ### enumerate(tuple) -/
open AutoSeq1 (wpAny_loadPart') in
theorem meets_enumerate_newT (l : Addr) (items : Array Value) (n : Nat) (dct : Option Addr) (sl : Array (Option Value)) :
    Meets (Builtin.«enumerate.__new__» ⟨[.type "enumerate", .ref l], []⟩) (fun _ R s => s.heap.get? l = some { cls := .type "tuple", dict := dct, data := .seq items n, slots := sl } ∧
      R (.ok (.ret (.ref (s.heap.push { cls := .type "tuple_iterator", data := .fields #[.ref l, .int 0 0] }).objs.size)))
        { s with heap := (s.heap.push { cls := .type "tuple_iterator", data := .fields #[.ref l, .int 0 0] }).push { cls := .type "enumerate", data := .fields #[.none, .bool false, .ref s.heap.objs.size, rawInt 0, .none, .none] } }) :=
  .of_wp fun prog w A R s h => by
    obtain ⟨hp, g, d, tk, os⟩ := s; obtain ⟨hl, h⟩ := h
    have hsub := sub_enumerate
    have hL : Heap.IsTuple (Shared.heap ⟨hp, g, d, tk, os⟩) l items := ⟨_, hl, rfl, n, rfl⟩
    wp_walk using wpAny_loadPart' hl
    refine wpAny_stack_any fun st => wpAny_pure ?_
    split
    · rename_i c _ _ _ _ _
      cases (c == Value.type "enumerate")
      · wp_walk using wpAny_loadPart' hl, wpAny_pyIter_tuple hL
        exact ⟨_, rfl, h⟩
      · wp_walk using wpAny_loadPart' hl, wpAny_pyIter_tuple hL
        exact ⟨_, rfl, h⟩
    · wp_walk using wpAny_loadPart' hl, wpAny_pyIter_tuple hL
      exact ⟨_, rfl, h⟩
theorem call_enumerate_tuple {prog : Program} {w : World} {A : Around} {E : Value → Shared → Prop} {s : Shared} {l : Addr} {items : Array Value} {Q : Value → Shared → Prop} (hL : s.heap.IsTuple l items)
    (h : ∀ h', IsEnum h' (s.heap.objs.size + 1) s.heap.objs.size 0 .none → h'.IsTupleIter s.heap.objs.size l 0 → h'.objs.size = s.heap.objs.size + 2 →
      (∀ b o, s.heap.get? b = some o → h'.get? b = some o) → Q (.ref (s.heap.objs.size + 1)) { s with heap := h' }) :
    wpAny (model prog w) A (call (.type "enumerate") [.ref l]) Q E s := by
  obtain ⟨⟨c, dct, dt, sl⟩, hl, hc, n, hd⟩ := hL
  replace hc : c = .type "tuple" := hc
  replace hd : dt = .seq items n := hd
  subst hc hd
  refine callType_new F.called_enumerate (by decide) (F.typeCall_enumerate_1 _) (F.newCall_enumerate_1 _) (fun obj => F.args_object_init_2 obj _) F.entry_enumerate_new
    (meets_enumerate_newT l items n dct sl) ⟨hl, ?_⟩
  have hz : (s.heap.push { cls := .type "tuple_iterator", data := .fields #[.ref l, .int 0 0] }).objs.size = s.heap.objs.size + 1 := Heap.size_push ..
  show _ ∧ _
  rw [hz]
  have he : IsEnum ((s.heap.push { cls := .type "tuple_iterator", data := .fields #[.ref l, .int 0 0] }).push
      { cls := .type "enumerate", data := .fields #[.none, .bool false, .ref s.heap.objs.size, rawInt 0, .none, .none] }) (s.heap.objs.size + 1) s.heap.objs.size 0 .none := by
    have := Heap.get?_push_size (s.heap.push { cls := .type "tuple_iterator", data := .fields #[.ref l, .int 0 0] })
      (o := { cls := .type "enumerate", data := .fields #[.none, .bool false, .ref s.heap.objs.size, rawInt 0, .none, .none] }) rfl
    rw [hz] at this; exact this
  refine ⟨⟨_, he, rfl⟩, h _ he ⟨_, Heap.get?_push_of_some _ (Heap.get?_push_size _ rfl), rfl, rfl⟩ (by rw [Heap.size_push, hz]) fun b o x => Heap.get?_push_of_some _ (Heap.get?_push_of_some _ x)⟩
def IteT (K : PySem.W.Frag) (a : Addr) : It :=
  ⟨fun i H => ∃ (xs : List V) (x : V), SqT K H a xs ∧ xs[i]? = some x, fun i H v H' => ∃ T x, v = .ref T ∧ H T = none ∧ H' = upd H T (.tup [.int (i : Nat), x]) ∧ ∀ xs, SqT K H a xs → xs[i]? = some x, fun i H => ∃ xs : List V, SqT K H a xs ∧ xs.length ≤ i⟩
theorem turn_enumT {P : Program} {w : World} {K : PySem.W.Frag} {elts : List Expr} {kk : Nat} {tpos : Pos} (a e it : Addr) :
    Turn P w K (.Tuple elts kk tpos) (IteT K a) [e, it] e (fun i h => (∃ old, IsEnum h e it ((i : Nat) : Int) old) ∧ h.IsTupleIter it a i ∧ e ≠ it) where
  mem := by simp
  obj := fun i h st b hb => by
    obtain ⟨⟨old, he⟩, ⟨o, ho, hc, hd⟩, _⟩ := st
    have e' : b = e ∨ b = it := by simpa using hb
    rcases e' with z | z
    · rw [z]; exact ⟨_, he, fun v q => nomatch q⟩
    · rw [z]; exact ⟨o, ho, fun v q => by rw [hd] at q; cases q⟩
  keep := fun i h h' st k => let ⟨⟨old, he⟩, hi, hne⟩ := st; ⟨⟨old, k e (by simp) _ he⟩, hi.at fun o q => k it (by simp) o q, hne⟩
  item := by
    intro X hP hw hK hc i pins s σ H E I hf st hg
    subst hP hw hK
    obtain ⟨⟨old, he⟩, hit, hne⟩ := st
    obtain ⟨xs, x, hq, hx⟩ := hg
    obtain ⟨its, rv, p, hz⟩ := I.tuple hq
    obtain ⟨u, hu, ru⟩ := rv.get hx
    have hel : e < s.heap.objs.size := Heap.lt_size he
    have hil : it < s.heap.objs.size := by obtain ⟨_, q, _⟩ := hit; exact Heap.lt_size q
    have hit' : s.heap.IsTuple a its.toArray := p
    have ne1 : a ≠ it := by
      obtain ⟨o1, q1, c1, d1⟩ := hit
      obtain ⟨o2, q2, c2, n2, d2⟩ := hit'
      intro z
      rw [z, q1] at q2; cases q2
      rw [d1] at d2; cases d2
    have ne2 : e ≠ a := by
      obtain ⟨o2, q2, c2, n2, d2⟩ := hit'
      intro z
      have he' : s.heap.get? e = some _ := he
      rw [z, q2] at he'
      have he'' := Option.some.inj he'
      rw [he''] at d2
      cases d2
    have D := Draws.tuple (prog := X.prog) (w := X.w) (A := X.A.in1) (I.ok.hd hc) it a ne1 its.toArray
    have hlt : i < its.toArray.size := by
      have := (List.getElem?_eq_some_iff.mp hu).1
      simpa using this
    refine wpAny_pyNext_enum_itemD D he ⟨hit, hit'⟩ hlt hne (by simp [hne, ne2]) fun y h' tk hy ho hst hT hsz hk => ?_
    have ey : y = u := by
      have hy' : its.toArray[i]? = some y := hy
      rw [List.getElem?_toArray, hu] at hy'
      exact (Option.some.inj hy').symm
    subst ey
    refine ⟨_, rfl, wpAny_letOwnedTupleGo_enum (s := { s with heap := h', toks := tk + 1 }) ho fun h'' he' sb => ?_⟩
    have hT2 : h''.get? s.heap.objs.size = some { cls := .type "tuple", data := .seq #[.int i tk, y] } := (sb.2 _ (Nat.ne_of_gt hel)).trans hT
    have new : ObjOk X.prog X.w (upd H s.heap.objs.size (.tup [.int (i : Nat), x])) h'' s.heap.objs.size (.tup [.int (i : Nat), x]) :=
      ⟨by show 2 ≤ sizeLine; decide, [.int i tk, y], .cons ⟨_, rfl⟩ (.cons ru .nil), ⟨_, hT2, rfl, _, rfl⟩⟩
    have I1 : Inv X pins σ (upd H s.heap.objs.size (.tup [.int (i : Nat), x])) { s with heap := h'', toks := tk + 1 } :=
      I.turnedNew (ch := [e, it]) (fun b ob hb q => (sb.2 b (fun z => hb (by simp [z]))).trans (hk b ob (fun z => hb (by simp [z])) (fun z => hb (by simp [z])) q)) hf (Nat.le_refl _) new
    refine ⟨.ref s.heap.objs.size, _, I1, rfl, ⟨_, x, rfl, I.hok.fresh (Nat.le_refl _), rfl, fun ys hy => by rw [I.tuple_inj hy hq]; exact hx⟩, ⟨⟨y, ?_⟩, hst.1.at fun o q => (sb.2 it (Ne.symm hne)).trans q, hne⟩, fun b hb => ?_⟩
    · have e1 : ((i + 1 : Nat) : Int) = (i : Int) + 1 := by omega
      rw [e1]; exact he'
    · have hb' : b < s.heap.objs.size := by
        have e' : b = e ∨ b = it := by simpa using hb
        rcases e' with z | z
        · rw [z]; exact hel
        · rw [z]; exact hil
      rw [upd_ne (Nat.ne_of_lt hb')]
      exact (hf b hb).1
  done := by
    intro X hP hw hK hc i pins s σ H E I hf st hg
    subst hP hw hK
    obtain ⟨⟨old, he⟩, hit, hne⟩ := st
    obtain ⟨xs, hq, hx⟩ := hg
    obtain ⟨its, rv, p, hz⟩ := I.tuple hq
    obtain ⟨f0, f1, f2, f3, f4, f5⟩ := hf it (by simp)
    have hl := rv.length
    have hT : s.TypeIs (.ref e) "enumerate" := ⟨_, he, rfl⟩
    unfold pyNext
    refine wpAny_bind (wpAny_attempt (wpAny_callSpecial?_slot (name := Str.ofString "__next__") hT F.slot_enumerate_next
      (wpAny_call_entry F.slot_enumerate_next hT F.entry_enumerate_next ?_ (F.args_enumerate_next_1 _))))
    show wpAny _ _ (field (.ref e) 2 >>= _) _ _ _
    refine wpAny_bind (wpAny_field he rfl (x := .ref it) rfl ?_)
    refine wpAny_bind (wpAny_nextOf_tuple_end (I.ok.hd hc) hit (show s.heap.IsTuple a its.toArray from p) (by simp; omega) fun h' y he' hx' => ?_)
    obtain ⟨o, ho, hc'⟩ := hx'
    refine wpAny_bind (wpAny_isInstance (T := "StopIteration") (b := true) ⟨o, ho, hc'⟩ isSubtype_stop ?_)
    exact wpAny_pure ⟨rfl, I.turned (t' := s.toks) (fun b o hb q => he' b o hb q) f0 f1 f3 f4 f5⟩
  self := fun A i s Q E st h => let ⟨⟨_, he⟩, _⟩ := st; wpAny_pyIter_enum he h

/-! ### what is walked, by values -/
def ItR (X : Cx) (tg : Expr) (r : V → Hp → (It → Hp → Prop) → Prop) : Prop :=
  ∀ (pins : List (Addr × Obj)) (s : Shared) (σ : L2.St) (H : Hp) (x : V) (v : Value) (R : It → Hp → Prop), Inv X pins σ H s → RelV x v → r x H R → wpAny (model X.prog X.w) X.A (pyIter v) (PIE X pins σ tg R) X.xe s
section
variable {X : Cx} {tg : Expr}
theorem it_list : ItR X tg (fun x H R => ∃ a xs, x = .ref a ∧ SqL X.K H a xs ∧ R (Itl X.K a) H) := by
  intro pins s1 σ H1 x v R I1 r1 h
  obtain ⟨a, xs, rfl, hq, q⟩ := h
  cases r1
  obtain ⟨its, rv, p, hz⟩ := I1.list hq
  exact wpAny_pyIter_list p.isList (pi_one (tk := s1.toks) I1 _ (turn_list a _) ⟨_, Heap.get?_push_size _ rfl, rfl, rfl⟩ q)
theorem it_tup : ItR X tg (fun x H R => ∃ a xs, x = .ref a ∧ SqT X.K H a xs ∧ R (Itt X.K a) H) := by
  intro pins s1 σ H1 x v R I1 r1 h
  obtain ⟨a, xs, rfl, hq, q⟩ := h
  cases r1
  obtain ⟨its, rv, p, hz⟩ := I1.tuple hq
  exact wpAny_pyIter_tuple (show s1.heap.IsTuple a its.toArray from p) (pi_one (tk := s1.toks) I1 _ (turn_tuple a _) ⟨_, Heap.get?_push_size _ rfl, rfl, rfl⟩ q)
theorem it_str : ItR X tg (fun x H R => ∃ z, x = .str z ∧ R (Its z) H) := by
  intro pins s1 σ H1 y v R I1 r1 h
  obtain ⟨x, rfl, q⟩ := h
  obtain ⟨t, rfl⟩ := r1
  cases ha : x.cps.all (· < 128)
  · exact wpAny_pyIter_wide ha (pi_one (tk := s1.toks) I1 _ (turn_str _ x t "str_iterator" (.inr rfl)) ⟨_, Heap.get?_push_size _ rfl, rfl, rfl⟩ q)
  · exact wpAny_pyIter_ascii ha (pi_one (tk := s1.toks) I1 _ (turn_str _ x t "str_ascii_iterator" (.inl rfl)) ⟨_, Heap.get?_push_size _ rfl, rfl, rfl⟩ q)

/-! ### what is walked, in the small memory -/
inductive Itv where
  | vals (xs : List Va) | live (n : Nat) | liveE (n : Nat) | rng (lo c : Int) (n : Nat) | enu (xs : List Va) | txt (s : List Nat)
/-- at turn i: none: nothing is known; some none: it stops -/
def Itv.at (M : Mem) (i : Nat) : Itv → Option (Option Va)
  | .vals xs => some xs[i]?
  | .live n => match M[n]? with
    | some (.lst xs) => some xs[i]?
    | _ => none
  | .liveE n => match M[n]? with
    | some (.lst xs) => some (xs[i]?.map fun v => .tup [.int (i : Nat), v])
    | _ => none
  | .rng lo c n => some (if i < n then some (.int (lo + (i : Nat) * c)) else none)
  | .enu xs => some (xs[i]?.map fun v => .tup [.int (i : Nat), v])
  | .txt s => some (s[i]?.map fun c => .str [c])
structure JOk (G : Glo) (t : Itv) (J : It) (ι γ : List Addr) (H : Hp) : Prop where
  go : ∀ ι2 γ2 M2 H2 i v, Ext ι H ι2 H2 → Gr γ H γ2 → RM G ι2 γ2 M2 H2 → t.at M2 i = some (some v) → J.go i H2 ∧ ∀ x H3, J.yld i H2 x H3 → Ext ι2 H2 ι2 H3 ∧ RM G ι2 γ2 M2 H3 ∧ RV ι2 γ2 H3 v x
  stop : ∀ ι2 γ2 M2 H2 i, Ext ι H ι2 H2 → Gr γ H γ2 → RM G ι2 γ2 M2 H2 → t.at M2 i = some none → J.stop i H2
theorem getsome {α : Type} {l : List α} {i : Nat} (h : l[i]? = none) : l.length ≤ i := List.getElem?_eq_none_iff.mp h
section
variable {G : Glo} {ι γ : List Addr} {M : Mem} {H : Hp} {K : PySem.W.Frag} {a : Addr}
theorem Rd.keep {ι' : List Addr} {H' : Hp} {u : HO} (e : Ext ι H ι' H') (n : a ∉ ι) (h : Rd H a u) : Rd H' a u := by
  rcases h with h | ⟨o, h⟩
  · exact .inl (e.keep _ _ n h)
  · exact .inr ⟨o, e.keep _ _ n h⟩
theorem jok_list {xs : List Va} {ys : List V} (n : Out ι γ a) (h : Rd H a (.lst ys)) (r : RVs ι γ H xs ys) : JOk G (.vals xs) (Itl K a) ι γ H := by
  refine ⟨fun ι2 γ2 M2 H2 i v e g R q => ?_, fun ι2 γ2 M2 H2 i e g R q => ?_⟩
  · have q' : xs[i]? = some v := Option.some.inj q
    obtain ⟨x, hx, rx⟩ := (r.move e g).get q'
    have sq : SqL K H2 a ys := .inl (Rd.keep e n.1 h)
    exact ⟨⟨ys, x, sq, hx⟩, fun y H3 hy => by
      obtain ⟨rfl, hy⟩ := hy
      have := hy ys sq
      rw [hx] at this; cases this
      exact ⟨Ext.refl _ _, R, rx⟩⟩
  · have q' : xs[i]? = none := Option.some.inj q
    exact ⟨ys, .inl (Rd.keep e n.1 h), by rw [← r.length]; exact getsome q'⟩
theorem jok_tup {xs : List Va} {ys : List V} (n : Out ι γ a) (h : H a = some (.tup ys)) (r : RVs ι γ H xs ys) : JOk G (.vals xs) (Itt K a) ι γ H := by
  refine ⟨fun ι2 γ2 M2 H2 i v e g R q => ?_, fun ι2 γ2 M2 H2 i e g R q => ?_⟩
  · have q' : xs[i]? = some v := Option.some.inj q
    obtain ⟨x, hx, rx⟩ := (r.move e g).get q'
    have sq : SqT K H2 a ys := SqT.of (e.keep _ _ n.1 h)
    exact ⟨⟨ys, x, sq, hx⟩, fun y H3 hy => by
      obtain ⟨rfl, hy⟩ := hy
      have := hy ys sq
      rw [hx] at this; cases this
      exact ⟨Ext.refl _ _, R, rx⟩⟩
  · have q' : xs[i]? = none := Option.some.inj q
    exact ⟨ys, SqT.of (e.keep _ _ n.1 h), by rw [← r.length]; exact getsome q'⟩
theorem pair_rv {H2 : Hp} {ι2 γ2 : List Addr} {M2 : Mem} {T : Addr} {i : Nat} {v : Va} {x : V} (R : RM G ι2 γ2 M2 H2) (hT : H2 T = none) (rx : RV ι2 γ2 H2 v x) :
    Ext ι2 H2 ι2 (upd H2 T (.tup [.int (i : Nat), x])) ∧ RM G ι2 γ2 M2 (upd H2 T (.tup [.int (i : Nat), x])) ∧ RV ι2 γ2 (upd H2 T (.tup [.int (i : Nat), x])) (.tup [.int (i : Nat), v]) (.ref T) :=
  ⟨Ext.val hT, R.val hT, .tup (R.fresh hT) upd_same (.cons (.int _) (.cons (rx.mono (Ext.val hT)) .nil))⟩
theorem jok_enum {xs : List Va} {ys : List V} (n : Out ι γ a) (h : Rd H a (.lst ys)) (r : RVs ι γ H xs ys) : JOk G (.enu xs) (Ite K a) ι γ H := by
  refine ⟨fun ι2 γ2 M2 H2 i v e g R q => ?_, fun ι2 γ2 M2 H2 i e g R q => ?_⟩
  · have q' : xs[i]?.map (fun v => Va.tup [.int (i : Nat), v]) = some v := Option.some.inj q
    obtain ⟨w, q1, q2⟩ := Option.map_eq_some_iff.mp q'
    subst q2
    obtain ⟨x, hx, rx⟩ := (r.move e g).get q1
    have sq : SqL K H2 a ys := .inl (Rd.keep e n.1 h)
    exact ⟨⟨ys, x, sq, hx⟩, fun y H3 hy => by
      obtain ⟨T, z, rfl, hT, rfl, hy⟩ := hy
      have := hy ys sq
      rw [hx] at this; cases this
      exact pair_rv R hT rx⟩
  · have q' : xs[i]? = none := by
      have := Option.some.inj q
      simpa using this
    exact ⟨ys, .inl (Rd.keep e n.1 h), by rw [← r.length]; exact getsome q'⟩
theorem jok_enumT {xs : List Va} {ys : List V} (n : Out ι γ a) (h : H a = some (.tup ys)) (r : RVs ι γ H xs ys) : JOk G (.enu xs) (IteT K a) ι γ H := by
  refine ⟨fun ι2 γ2 M2 H2 i v e g R q => ?_, fun ι2 γ2 M2 H2 i e g R q => ?_⟩
  · have q' : xs[i]?.map (fun v => Va.tup [.int (i : Nat), v]) = some v := Option.some.inj q
    obtain ⟨w, q1, q2⟩ := Option.map_eq_some_iff.mp q'
    subst q2
    obtain ⟨x, hx, rx⟩ := (r.move e g).get q1
    have sq : SqT K H2 a ys := SqT.of (e.keep _ _ n.1 h)
    exact ⟨⟨ys, x, sq, hx⟩, fun y H3 hy => by
      obtain ⟨T, z, rfl, hT, rfl, hy⟩ := hy
      have := hy ys sq
      rw [hx] at this; cases this
      exact pair_rv R hT rx⟩
  · have q' : xs[i]? = none := by
      have := Option.some.inj q
      simpa using this
    exact ⟨ys, SqT.of (e.keep _ _ n.1 h), by rw [← r.length]; exact getsome q'⟩
theorem live_at {n : Nat} {xs : List Va} {ι2 γ2 : List Addr} {M2 : Mem} {H2 : Hp} (hn : ι[n]? = some a) (e : Ext ι H ι2 H2) (R : RM G ι2 γ2 M2 H2) (q : M2[n]? = some (.lst xs)) : ∃ ys, SqL K H2 a ys ∧ RVs ι2 γ2 H2 xs ys := by
  obtain ⟨ys, h1, h2⟩ := R.at_ n _ a q (e.ix hn)
  exact ⟨ys, SqL.of h1, h2⟩
theorem jok_live {n : Nat} (hn : ι[n]? = some a) : JOk G (.live n) (Itl K a) ι γ H := by
  refine ⟨fun ι2 γ2 M2 H2 i v e g R q => ?_, fun ι2 γ2 M2 H2 i e g R q => ?_⟩
  · simp only [Itv.at] at q
    split at q
    · rename_i xs q1
      obtain ⟨ys, sq, rs⟩ := live_at (K := K) hn e R q1
      obtain ⟨x, hx, rx⟩ := rs.get (Option.some.inj q)
      exact ⟨⟨ys, x, sq, hx⟩, fun y H3 hy => by
        obtain ⟨rfl, hy⟩ := hy
        have := hy ys sq
        rw [hx] at this; cases this
        exact ⟨Ext.refl _ _, R, rx⟩⟩
    · cases q
  · simp only [Itv.at] at q
    split at q
    · rename_i xs q1
      obtain ⟨ys, sq, rs⟩ := live_at (K := K) hn e R q1
      exact ⟨ys, sq, by rw [← rs.length]; exact getsome (Option.some.inj q)⟩
    · cases q
theorem jok_liveE {n : Nat} (hn : ι[n]? = some a) : JOk G (.liveE n) (Ite K a) ι γ H := by
  refine ⟨fun ι2 γ2 M2 H2 i v e g R q => ?_, fun ι2 γ2 M2 H2 i e g R q => ?_⟩
  · simp only [Itv.at] at q
    split at q
    · rename_i xs q1
      obtain ⟨ys, sq, rs⟩ := live_at (K := K) hn e R q1
      obtain ⟨w, q2, q3⟩ := Option.map_eq_some_iff.mp (Option.some.inj q)
      subst q3
      obtain ⟨x, hx, rx⟩ := rs.get q2
      exact ⟨⟨ys, x, sq, hx⟩, fun y H3 hy => by
        obtain ⟨T, z, rfl, hT, rfl, hy⟩ := hy
        have := hy ys sq
        rw [hx] at this; cases this
        exact pair_rv R hT rx⟩
    · cases q
  · simp only [Itv.at] at q
    split at q
    · rename_i xs q1
      obtain ⟨ys, sq, rs⟩ := live_at (K := K) hn e R q1
      have q' : xs[i]? = none := by
        have := Option.some.inj q
        simpa using this
      exact ⟨ys, sq, by rw [← rs.length]; exact getsome q'⟩
    · cases q
theorem jok_rng {lo c : Int} {n : Nat} : JOk G (.rng lo c n) (Itc lo c n) ι γ H := by
  refine ⟨fun ι2 γ2 M2 H2 i v e g R q => ?_, fun ι2 γ2 M2 H2 i e g R q => ?_⟩
  · simp only [Itv.at, Option.some.injEq] at q
    split at q
    · rename_i hi
      cases q
      exact ⟨hi, fun y H3 hy => by
        obtain ⟨rfl, rfl⟩ := hy
        exact ⟨Ext.refl _ _, R, .int _⟩⟩
    · cases q
  · simp only [Itv.at, Option.some.injEq] at q
    split at q
    · cases q
    · rename_i hi
      exact Nat.le_of_not_lt hi
theorem jok_rng1 {lo : Int} {n : Nat} : JOk G (.rng lo 1 n) (Itr lo n) ι γ H := by
  refine ⟨fun ι2 γ2 M2 H2 i v e g R q => ?_, fun ι2 γ2 M2 H2 i e g R q => ?_⟩
  · simp only [Itv.at, Option.some.injEq] at q
    split at q
    · rename_i hi
      cases q
      exact ⟨hi, fun y H3 hy => by
        obtain ⟨rfl, rfl⟩ := hy
        refine ⟨Ext.refl _ _, R, ?_⟩
        rw [Int.mul_one]
        exact .int _⟩
    · cases q
  · simp only [Itv.at, Option.some.injEq] at q
    split at q
    · cases q
    · rename_i hi
      exact Nat.le_of_not_lt hi
theorem jok_txt {s : List Nat} : JOk G (.txt s) (Its ⟨s.toArray⟩) ι γ H := by
  refine ⟨fun ι2 γ2 M2 H2 i v e g R q => ?_, fun ι2 γ2 M2 H2 i e g R q => ?_⟩
  · have q' : s[i]?.map (fun c => Va.str [c]) = some v := Option.some.inj q
    obtain ⟨c, q1, q2⟩ := Option.map_eq_some_iff.mp q'
    subst q2
    have hi := (List.getElem?_eq_some_iff.mp q1).1
    refine ⟨by show i < s.toArray.size; simpa using hi, fun y H3 hy => ?_⟩
    obtain ⟨rfl, d, hd, rfl⟩ := hy
    have hd' : s[i]? = some d := by simpa using hd
    rw [q1] at hd'; cases hd'
    exact ⟨Ext.refl _ _, R, .str [c]⟩
  · have q' : s[i]? = none := by
      have := Option.some.inj q
      simpa using this
    show s.toArray.size ≤ i
    simpa using getsome q'
end
end
end Dn
namespace Dn
open PySem PySem.Spec L2 PyProof.Rows
/-! ### the text -/
mutual
inductive Tg where
  | nm (i : Nat) (x : Str) (p : Pos) | tp (ts : Tgs) (k : Nat) (p : Pos)
inductive Tgs where
  | nil | cons (t : Tg) (ts : Tgs)
end
mutual
inductive E where
  | var (i : Nat) (x : Str) (p : Pos)
  | non (k : Nat) (p : Pos)
  | bl (b : Bool) (k : Nat) (p : Pos)
  | int (i : Int) (k : Nat) (p : Pos)
  | str (s : List Nat) (k : Nat) (p : Pos)
  | glb (v : Va) (x : Str) (p : Pos)
  | bin (m : Bool) (op : Operator) (a b : E) (p : Pos)
  | neg (a : E) (p : Pos)
  | not (a : E) (p : Pos)
  | bop (op : BoolOp) (es : Es) (p : Pos)
  | cmp (op : CmpOp) (a b : E) (p : Pos)
  | chn (o1 o2 : CmpOp) (a b c : E) (p : Pos)
  | inG (ng : Bool) (a : E) (vs : List (List Nat)) (x : Str) (q p : Pos)
  | isN (ng : Bool) (a : E) (k : Nat) (q p : Pos)
  | ite (c a b : E) (p : Pos)
  | tup (es : Es) (k : Nat) (p : Pos)
  | lst (m : Bool) (es : Es) (p : Pos)
  | dnw (t : Bool) (p : Pos)
  | ix (a b : E) (p : Pos)
  | sl (m : Bool) (a : E) (lo hi : Es) (q p : Pos)
  | fld (a : E) (f : Nat) (x : Str) (p : Pos)
  | call (f : Nat) (x : Str) (q : Pos) (es : Es) (p : Pos)
  | make (c : Nat) (f : Nat) (x : Str) (q : Pos) (es : Es) (p : Pos)
  | meth (c : Nat) (f : Nat) (a : E) (x : Str) (q : Pos) (es : Es) (p : Pos)
  | blt (b : Blt) (m : Bool) (q : Pos) (a : E) (p : Pos)
  | isi (a : E) (t : Ty) (q r p : Pos)
  | app (o e : E) (q p : Pos)
  | pop (o : E) (q p : Pos)
  | ext (o e : E) (q p : Pos)
  | isi2 (a : E) (t u : Ty) (q r1 r2 tp : Pos) (k : Nat) (p : Pos)
  | dsp (ks : List (List Nat × Nat × Pos)) (es : Es) (p : Pos)
  | dcm (t : Bool) (kx vx : E) (tg : Tg) (it : It') (ifs : Es) (sc : Scope) (own : List (Str × Nat)) (p : Pos)
  | comp (m : Bool) (elt : E) (tg : Tg) (it : It') (ifs : Es) (sc : Scope) (own : List (Str × Nat)) (p : Pos)
inductive Es where
  | nil | cons (e : E) (es : Es)
inductive It' where
  | seq (e : E) | rng (es : Es) (q p : Pos) | enu (e : E) (q p : Pos)
end
mutual
def Tg.py : Tg → Expr
  | .nm _ x p => .Name x p
  | .tp ts k p => .Tuple (Tgs.py ts) k p
def Tgs.py : Tgs → List Expr
  | .nil => []
  | .cons t ts => Tg.py t :: Tgs.py ts
end
def inOp (ng : Bool) : CmpOp := if ng then .NotIn else .In
def isOp (ng : Bool) : CmpOp := if ng then .IsNot else .Is
mutual
def E.py : E → Expr
  | .var _ x p => .Name x p
  | .non k p => .Constant .none k p
  | .bl b k p => .Constant (.bool b) k p
  | .int i k p => .Constant (.int i) k p
  | .str s k p => .Constant (.str ⟨s.toArray⟩) k p
  | .glb _ x p => .Name x p
  | .bin _ op a b p => .BinOp (E.py a) op (E.py b) p
  | .neg a p => .UnaryOp .USub (E.py a) p
  | .not a p => .UnaryOp .Not (E.py a) p
  | .bop op es p => .BoolOp op (Es.py es) p
  | .cmp op a b p => .Compare (E.py a) [op] [E.py b] p
  | .chn o1 o2 a b c p => .Compare (E.py a) [o1, o2] [E.py b, E.py c] p
  | .inG ng a _ x q p => .Compare (E.py a) [inOp ng] [.Name x q] p
  | .isN ng a k q p => .Compare (E.py a) [isOp ng] [.Constant .none k q] p
  | .ite c a b p => .IfExp (E.py c) (E.py a) (E.py b) p
  | .tup es k p => .Tuple (Es.py es) k p
  | .lst _ es p => .List (Es.py es) p
  | .dnw _ p => .Dict [] [] p
  | .ix a b p => .Subscript (E.py a) (E.py b) p
  | .sl _ a lo hi q p => .Subscript (E.py a) (.Slice (Es.py lo).head? (Es.py hi).head? none q) p
  | .fld a _ x p => .Attribute (E.py a) x p
  | .call _ x q es p => .Call (.Name x q) (Es.py es) [] p
  | .make _ _ x q es p => .Call (.Name x q) (Es.py es) [] p
  | .meth _ _ a x q es p => .Call (.Attribute (E.py a) x q) (Es.py es) [] p
  | .blt b _ q a p => .Call (.Name b.nm q) [E.py a] [] p
  | .isi a t q r p => .Call (.Name "isinstance" q) [E.py a, .Name (Str.ofString t.nm) r] [] p
  | .app o e q p => .Call (.Attribute (E.py o) "append" q) [E.py e] [] p
  | .pop o q p => .Call (.Attribute (E.py o) "pop" q) [] [] p
  | .ext o e q p => .Call (.Attribute (E.py o) "extend" q) [E.py e] [] p
  | .isi2 a t u q r1 r2 tp k p => .Call (.Name "isinstance" q) [E.py a, .Tuple [.Name (Str.ofString t.nm) r1, .Name (Str.ofString u.nm) r2] k tp] [] p
  | .dsp ks es p => .Dict (ks.map fun x => some (.Constant (.str ⟨x.1.toArray⟩) x.2.1 x.2.2)) (Es.py es) p
  | .dcm _ kx vx tg it ifs sc _ p => .DictComp (E.py kx) (E.py vx) [⟨tg.py, It'.py it, Es.py ifs, 0⟩] sc p
  | .comp _ elt tg it ifs sc _ p => .ListComp (E.py elt) [⟨tg.py, It'.py it, Es.py ifs, 0⟩] sc p
def Es.py : Es → List Expr
  | .nil => []
  | .cons e es => E.py e :: Es.py es
def It'.py : It' → Expr
  | .seq e => E.py e
  | .rng es q p => .Call (.Name "range" q) (Es.py es) [] p
  | .enu e q p => .Call (.Name "enumerate" q) [E.py e] [] p
end

/-! ### what it does -/
mutual
def tgSet : Tg → Va → Env → Option Env
  | .nm i _ _, v, env => some (env.set i (some v))
  | .tp ts _ _, v, env => match v with
    | .tup vs => tgsSet ts vs env
    | _ => none
def tgsSet : Tgs → List Va → Env → Option Env
  | .nil, vs, env => match vs with
    | [] => some env
    | _ :: _ => none
  | .cons t ts, vs, env => match vs with
    | v :: vs => match tgSet t v env with
      | some env' => tgsSet ts vs env'
      | none => none
    | [] => none
end
def Va.isNon : Va → Bool
  | .non => true
  | _ => false
def wipeE (env : Env) : List Nat → Env
  | [] => env
  | v :: vs => (wipeE env vs).set v none
/-- an exception is no way out -/
def Res.calm {α : Type} : Res α → Res α
  | .exc _ _ _ => .bad
  | r => r
def Res.ofO {α : Type} (M : Mem) : Option α → Res α
  | some a => .ok a M
  | none => .bad
def asB (v : Va) (M : Mem) : Res Bool := match v with
  | .bl b => .ok b M
  | _ => .bad
def finC (m : Bool) (acc : List Va) (M : Mem) : Res Va := if m then .ok (.ref M.length) (M ++ [.lst acc]) else .ok (.lst acc) M
@[irreducible] def fuelW : Nat := 16777300
def compL (t : Itv) (set : Va → Env → Option Env) (cond : Env → Mem → Res Bool) (elt : Env → Mem → Res Va) (env : Env) (fin : List Va → Mem → Res Va) : Nat → Nat → List Va → Mem → Res Va
  | 0, _, _, _ => .bad
  | k + 1, i, acc, M => match t.at M i with
    | none => .bad
    | some none => fin acc M
    | some (some v) => match set v env with
      | none => .bad
      | some env1 => (cond env1 M).calm.bind fun b M2 => if b then (elt env1 M2).calm.bind fun w M3 => if acc.length < sizeLine then compL t set cond elt env fin k (i + 1) (acc ++ [w]) M3 else .bad
          else compL t set cond elt env fin k (i + 1) acc M2
/-- a tuple of keys -/
def kyT : Va → Option (List (Sum Int (List Nat)))
  | .tup vs => keysOf vs
  | _ => none
def dcL {κ : Type} [DecidableEq κ] (ky : Va → Option κ) (mk : List (κ × Va) → Ob) (t : Itv) (set : Va → Env → Option Env) (cond : Env → Mem → Res Bool) (kx vx : Env → Mem → Res Va) (env : Env) : Nat → Nat → List (κ × Va) → Mem → Res Va
  | 0, _, _, _ => .bad
  | k + 1, i, acc, M => match t.at M i with
    | none => .bad
    | some none => .ok (.ref M.length) (M ++ [mk acc])
    | some (some v) => match set v env with
      | none => .bad
      | some env1 => (cond env1 M).calm.bind fun b M2 => if b then (kx env1 M2).calm.bind fun y M3 => (vx env1 M3).calm.bind fun w M4 => match ky y with
            | some c => if acc.length < sizeLine then dcL ky mk t set cond kx vx env k (i + 1) (put acc c w) M4 else .bad
            | none => .bad
          else dcL ky mk t set cond kx vx env k (i + 1) acc M2
def mergeD (acc : List (Sum Int (List Nat) × Va)) : List (List Nat) → List Va → List (Sum Int (List Nat) × Va)
  | k :: ks, v :: vs => mergeD (put acc (.inr k) v) ks vs
  | _, _ => acc
def newD (ks : List (List Nat)) (vs : List Va) (M : Mem) : Res Va := if vs.length = ks.length then .ok (.ref M.length) (M ++ [.dic (mergeD [] ks vs)]) else .bad
/-- what a step calls: a def by its number; an __init__ (it stands one frame deeper) -/
structure Orc where
  cl : Nat → List Va → Mem → Res Va
  ini : Nat → List Va → Mem → Res Va
def ofInts : Va → Option Int
  | .int i => some i
  | _ => none
def rng62 (i : Int) : Bool := decide (-(2 ^ 62) ≤ i) && decide (i < 2 ^ 62)
def rangeOf : List Va → Option Itv
  | [.int j] => if rng62 j then some (.rng 0 1 j.toNat) else none
  | [.int i, .int j] => if rng62 i && rng62 j then some (.rng i 1 (j - i).toNat) else none
  | [.int i, .int j, .int c] => if rng62 i && rng62 j && decide (c = -1) then some (.rng i (-1) (i - j).toNat) else none
  | _ => none
def seqOf (M : Mem) : Va → Option Itv
  | .tup xs => some (.vals xs)
  | .lst xs => some (.vals xs)
  | .str s => some (.txt s)
  | .ref n => match M[n]? with
    | some (.lst _) => some (.live n)
    | _ => none
  | _ => none
def enuOf (M : Mem) : Va → Option Itv
  | .tup xs => some (.enu xs)
  | .lst xs => some (.enu xs)
  | .ref n => match M[n]? with
    | some (.lst _) => some (.liveE n)
    | _ => none
  | _ => none
def fldOf (M : Mem) (v : Va) (f : Nat) : Option Va := match v with
  | .ref n => match M[n]? with
    | some (.ins _ fs) => look fs f
    | _ => none
  | _ => none
def isiOf (M : Mem) (v : Va) (t : Ty) : Option Bool := (tyOf M v).map fun s => isT s t
/-- the items of a list that is an object -/
def itemsO (M : Mem) : Va → Option (List Va)
  | .ref n => match M[n]? with
    | some (.lst xs) => some xs
    | _ => none
  | _ => none
def madeOf (n : Nat) (v : Va) (M : Mem) : Res Va := match v with
  | .non => .ok (.ref n) M
  | _ => .bad
def appTo (v w : Va) (M : Mem) : Res Va := match v with
  | .ref n => match M[n]? with
    | some (.lst xs) => if xs.length < sizeLine then .ok .non (M.set n (.lst (xs ++ [w]))) else .bad
    | _ => .bad
  | _ => .bad
def extTo (v w : Va) (M : Mem) : Res Va := match v with
  | .ref n => match M[n]?, w with
    | some (.lst xs), .lst ys => if xs.length + ys.length ≤ sizeLine then .ok .non (M.set n (.lst (xs ++ ys))) else .bad
    | _, _ => .bad
  | _ => .bad
def popOf (v : Va) (M : Mem) : Res Va := match v with
  | .ref n => match M[n]? with
    | some (.lst xs) => match xs.getLast? with
      | some y => .ok y (M.set n (.lst xs.dropLast))
      | none => .bad
    | _ => .bad
  | _ => .bad
mutual
def dE (o : Orc) : E → Env → Mem → Res Va
  | .var i _ _, env, M => match env[i]? with
    | some (some v) => .ok v M
    | _ => .bad
  | .non _ _, _, M => .ok .non M
  | .bl b _ _, _, M => .ok (.bl b) M
  | .int i _ _, _, M => .ok (.int i) M
  | .str s _ _, _, M => .ok (.str s) M
  | .glb v _ _, _, M => match v with
    | .int i => .ok (.int i) M
    | .str s => .ok (.str s) M
    | _ => .bad
  | .bin m op a b _, env, M => (dE o a env M).bind fun v M => (dE o b env M).bind fun w M => opB m op v w M
  | .neg a _, env, M => (dE o a env M).bind fun v M => match v with
    | .int i => .ok (.int (-i)) M
    | _ => .bad
  | .not a _, env, M => (dE o a env M).bind fun v M => match v with
    | .bl b => .ok (.bl (!b)) M
    | _ => .bad
  | .bop op es _, env, M => dB o op es env M
  | .cmp op a b _, env, M => (dE o a env M).bind fun v M => (dE o b env M).bind fun w M => Res.ofO M ((opC op v w M).map .bl)
  | .chn o1 o2 a b c _, env, M => (dE o a env M).bind fun v M => (dE o b env M).bind fun w M => (Res.ofO M (opC o1 v w M)).bind fun k M =>
      if k then (dE o c env M).bind fun u M => Res.ofO M ((opC o2 w u M).map .bl) else .ok (.bl false) M
  | .inG ng a vs _ _ _, env, M => (dE o a env M).bind fun v M => if flat v then .ok (.bl (if ng then !(vs.any fun y => veq (.str y) v) else vs.any fun y => veq (.str y) v)) M else .bad
  | .isN ng a _ _ _, env, M => (dE o a env M).bind fun v M => .ok (.bl (if ng then !v.isNon else v.isNon)) M
  | .ite c a b _, env, M => (dE o c env M).bind fun v M => match v with
    | .bl true => dE o a env M
    | .bl false => dE o b env M
    | _ => .bad
  | .tup es _ _, env, M => (dEs o es env M).bind fun vs M => if vs.length ≤ sizeLine then .ok (.tup vs) M else .bad
  | .lst m es _, env, M => (dEs o es env M).bind fun vs M => newL m vs M
  | .dnw t _, _, M => .ok (.ref M.length) (M ++ [if t then .dit [] else .dic []])
  | .ix a b _, env, M => (dE o a env M).bind fun v M => (dE o b env M).bind fun w M => Res.ofO M (opIx v w M)
  | .sl m a lo hi _ _, env, M => (dE o a env M).bind fun v M => (dO o lo env M).bind fun l M => (dO o hi env M).bind fun h M => opSl m v l h M
  | .fld a f _ _, env, M => (dE o a env M).bind fun v M => Res.ofO M (fldOf M v f)
  | .call f _ _ es _, env, M => (dEs o es env M).bind fun vs M => o.cl f vs M
  | .make c f _ _ es _, env, M => (dEs o es env M).bind fun vs M => ((o.ini f (.ref M.length :: vs) (M ++ [.ins c []]))).calm.bind (madeOf M.length)
  | .meth c f a _ _ es _, env, M => (dE o a env M).bind fun v M => match v with
    | .ref n => match M[n]? with
      | some (.ins c' _) => if c' = c then (dEs o es env M).bind fun vs M => o.cl f (.ref n :: vs) M else .bad
      | _ => .bad
    | _ => .bad
  | .blt b m _ a _, env, M => (dE o a env M).bind fun v M => opF b m v M
  | .isi a t _ _ _, env, M => (dE o a env M).bind fun v M => Res.ofO M ((isiOf M v t).map .bl)
  | .app a e _ _, env, M => (dE o a env M).bind fun v M => match itemsO M v with
    | some _ => (dE o e env M).bind fun w M => appTo v w M
    | none => .bad
  | .pop a _ _, env, M => (dE o a env M).bind fun v M => popOf v M
  | .ext a e _ _, env, M => (dE o a env M).bind fun v M => match itemsO M v with
    | some _ => (dE o e env M).bind fun w M => extTo v w M
    | none => .bad
  | .isi2 a t u _ _ _ _ _ _, env, M => (dE o a env M).bind fun v M => Res.ofO M ((tyOf M v).map fun s => .bl (isT s t || isT s u))
  | .dsp ks es _, env, M => (dEs o es env M).calm.bind fun vs M => newD (ks.map (·.1)) vs M
  | .dcm tu kx vx tg it ifs _ own _, env, M => (dI o it env M).bind fun t M => if tu then dcL kyT .dit t (tgSet tg) (fun env M => dC o ifs env M) (fun env M => dE o kx env M) (fun env M => dE o vx env M) (wipeE env (own.map (·.2))) fuelW 0 [] M
      else dcL keyOf .dic t (tgSet tg) (fun env M => dC o ifs env M) (fun env M => dE o kx env M) (fun env M => dE o vx env M) (wipeE env (own.map (·.2))) fuelW 0 [] M
  | .comp m elt tg it ifs _ own _, env, M => (dI o it env M).bind fun t M => compL t (tgSet tg) (fun env M => dC o ifs env M) (fun env M => dE o elt env M) (wipeE env (own.map (·.2)))
      (finC m) fuelW 0 [] M
def dEs (o : Orc) : Es → Env → Mem → Res (List Va)
  | .nil, _, M => .ok [] M
  | .cons e es, env, M => (dE o e env M).bind fun v M => (dEs o es env M).bind fun vs M => .ok (v :: vs) M
/-- a part of a slice -/
def dO (o : Orc) : Es → Env → Mem → Res (Option Int)
  | .nil, _, M => .ok none M
  | .cons e _, env, M => (dE o e env M).bind fun v M => match v with
    | .int i => .ok (some i) M
    | _ => .bad
/-- and, or -/
def dB (o : Orc) (op : BoolOp) : Es → Env → Mem → Res Va
  | .nil, _, _ => .bad
  | .cons e .nil, env, M => dE o e env M
  | .cons e (.cons e' es), env, M => (dE o e env M).bind fun v M => match v, op with
    | .bl true, .And => dB o op (.cons e' es) env M
    | .bl false, .And => .ok (.bl false) M
    | .bl true, .Or => .ok (.bl true) M
    | .bl false, .Or => dB o op (.cons e' es) env M
    | _, _ => .bad
/-- the tests of a comprehension: none or one -/
def dC (o : Orc) : Es → Env → Mem → Res Bool
  | .nil, _, M => .ok true M
  | .cons e _, env, M => (dE o e env M).bind asB
def dI (o : Orc) : It' → Env → Mem → Res Itv
  | .seq e, env, M => (dE o e env M).bind fun v M => Res.ofO M (seqOf M v)
  | .rng es _ _, env, M => (dEs o es env M).bind fun vs M => Res.ofO M (rangeOf vs)
  | .enu e _ _, env, M => (dE o e env M).bind fun v M => Res.ofO M (enuOf M v)
end
end Dn
namespace Dn
open PySem PySem.Spec L2 PyProof.Rows
/-! ### what is wanted of a result -/
def Post {α : Type} (G : Glo) (W : WX) (ι γ : List Addr) (H : Hp) (σ : L2.St) (P : α → List Addr → Hp → Prop) : Res α → Prop
  | .ok a M' => ∀ ι' H', Ext ι H ι' H' → RM G ι' γ M' H' → P a ι' H'
  | .exc c v M' => ∀ ι' H' d x, Ext ι H ι' H' → RM G ι' γ M' H' → RV ι' γ H' v x → H' d = some (.xd [(G.fld (G.xfl c), x)]) → W (.ref (G.cls c)) (some d) σ H'
  | .bad => False
section
variable {G : Glo} {W : WX} {ι γ ι1 : List Addr} {H H1 : Hp} {σ : L2.St} {α β : Type}
theorem Post.shift {P : α → List Addr → Hp → Prop} (e : Ext ι H ι1 H1) : ∀ {r : Res α}, Post G W ι γ H σ P r → Post G W ι1 γ H1 σ P r
  | .ok a M', h => fun ι' H' e' R => h ι' H' (e.trans e') R
  | .exc c v M', h => fun ι' H' d x e' R rv hd => h ι' H' d x (e.trans e') R rv hd
  | .bad, h => h
theorem Post.bind {P : β → List Addr → Hp → Prop} (Q' : α → List Addr → Hp → Prop) : ∀ {r : Res α} {k : α → Mem → Res β}, Post G W ι γ H σ P (r.bind k) →
    (∀ a M1, ∀ ι1 H1, Ext ι H ι1 H1 → RM G ι1 γ M1 H1 → Post G W ι1 γ H1 σ P (k a M1) → Q' a ι1 H1) → Post G W ι γ H σ Q' r
  | .ok a M1, k, h, hk => fun ι1 H1 e R => hk a M1 ι1 H1 e R (Post.shift e h)
  | .exc c v M', k, h, hk => h
  | .bad, k, h, hk => h.elim
theorem Post.bindE {P : β → List Addr → Hp → Prop} (Q' : α → List Addr → Hp → Prop) : ∀ {r : Res α} {k : α → Mem → Res β}, Post G W ι γ H σ P (r.bind k) →
    (∀ a M1, r = .ok a M1 → ∀ ι1 H1, Ext ι H ι1 H1 → RM G ι1 γ M1 H1 → Post G W ι1 γ H1 σ P (k a M1) → Q' a ι1 H1) → Post G W ι γ H σ Q' r
  | .ok a M1, k, h, hk => fun ι1 H1 e R => hk a M1 rfl ι1 H1 e R (Post.shift e h)
  | .exc c v M', k, h, hk => h
  | .bad, k, h, hk => h.elim
theorem Post.imp {P P' : α → List Addr → Hp → Prop} : ∀ {r : Res α}, Post G W ι γ H σ P r → (∀ a ι' H', Ext ι H ι' H' → P a ι' H' → P' a ι' H') → Post G W ι γ H σ P' r
  | .ok a M1, h, f => fun ι1 H1 e R => f a ι1 H1 e (h ι1 H1 e R)
  | .exc c v M', h, _ => h
  | .bad, h, _ => h
/-- a result that is no exception -/
theorem Post.okr {Q : VK} : ∀ {r : Res Va}, (∀ c v M, r ≠ .exc c v M) → Post G W ι γ H σ (fun v ι' H' => ∀ x, RV ι' γ H' v x → Q x H') r → OkR G ι γ H Q r
  | .ok a M', _, h => fun ι' H' q e R r => h ι' H' e R q r
  | .exc c v M', n, _ => absurd rfl (n c v M')
  | .bad, _, h => h
theorem Post.here {P : α → List Addr → Hp → Prop} {M : Mem} {a : α} (R : RM G ι γ M H) (h : Post G W ι γ H σ P (.ok a M)) : P a ι H := h ι H (Ext.refl ι H) R
theorem Post.ofO {P : α → List Addr → Hp → Prop} {M : Mem} {o : Option α} (R : RM G ι γ M H) (h : Post G W ι γ H σ P (Res.ofO M o)) : ∃ a, o = some a ∧ P a ι H := by
  cases o with
  | none => exact h.elim
  | some a => exact ⟨a, rfl, Post.here R h⟩
end
def rdE (G : Glo) (W : WX) (d : Env → Mem → Res Va) : TE := fun σ H Q => ∃ ι γ M env, RS ι γ H env σ ∧ RM G ι γ M H ∧ Post G W ι γ H σ (fun v ι' H' => ∀ x, RV ι' γ H' v x → Q x H') (d env M)
def rdT (G : Glo) (W : WX) (d : Env → Mem → Res Bool) : TT := fun σ H Q => ∃ ι γ M env, RS ι γ H env σ ∧ RM G ι γ M H ∧ Post G W ι γ H σ (fun b _ H' => Q b H') (d env M)
def rdA (G : Glo) (W : WX) (d : Env → Mem → Res (List Va)) : TA := fun σ H Q => ∃ ι γ M env, RS ι γ H env σ ∧ RM G ι γ M H ∧ Post G W ι γ H σ (fun vs ι' H' => ∀ xs, RVs ι' γ H' vs xs → Q xs H') (d env M)
def rdO (G : Glo) (W : WX) (d : Env → Mem → Res (Option Int)) : TO := fun σ H Q => ∃ ι γ M env, RS ι γ H env σ ∧ RM G ι γ M H ∧ Post G W ι γ H σ (fun o _ H' => Q o H') (d env M)
def rdI (G : Glo) (W : WX) (d : Env → Mem → Res Itv) : TI := fun σ H R => ∃ ι γ M env, RS ι γ H env σ ∧ RM G ι γ M H ∧ Post G W ι γ H σ (fun t ι' H' => ∀ J, JOk G t J ι' γ H' → R J H') (d env M)
theorem PE.imp {X : Cx} {e : Expr} {t t' : TE} (h : PE X e t) (f : ∀ σ H Q, t' σ H Q → t σ H Q) : PE X e t' := ⟨fun pins s σ H Q I q => h.run pins s σ H Q I (f σ H Q q)⟩
theorem PT.imp {X : Cx} {e : Expr} {t t' : TT} (h : PT X e t) (f : ∀ σ H Q, t' σ H Q → t σ H Q) : PT X e t' := ⟨fun pins s σ H Q I q => h.run pins s σ H Q I (f σ H Q q)⟩
theorem PW.imp {X : Cx} {e : Expr} {t t' : TT} (h : PW X e t) (f : ∀ σ H Q, t' σ H Q → t σ H Q) : PW X e t' := ⟨fun wh pins s σ H Q I q => h.run wh pins s σ H Q I (f σ H Q q)⟩
theorem PA.imp {X : Cx} {e : List Expr} {t t' : TA} (h : PA X e t) (f : ∀ σ H Q, t' σ H Q → t σ H Q) : PA X e t' := ⟨fun pos pins s σ H Q I q => h.run pos pins s σ H Q I (f σ H Q q)⟩
theorem PI.imp {X : Cx} {tg e : Expr} {t t' : TI} (h : PI X tg e t) (f : ∀ σ H Q, t' σ H Q → t σ H Q) : PI X tg e t' := ⟨fun pins s σ H Q I q => h.run pins s σ H Q I (f σ H Q q)⟩
theorem PE.bad {X : Cx} {e : Expr} {t : TE} (f : ∀ σ H Q, t σ H Q → False) : PE X e t := ⟨fun _ _ σ H Q _ q => (f σ H Q q).elim⟩

/-! ### no exceptions from operators -/
theorem newL_ne {m : Bool} {xs : List Va} {M : Mem} : ∀ c v M', newL m xs M ≠ .exc c v M' := by
  intro c v M' h
  unfold newL at h
  split at h
  · split at h <;> cases h
  · cases h
theorem opB_ne {m : Bool} {op : Operator} {a b : Va} {M : Mem} : ∀ c v M', opB m op a b M ≠ .exc c v M' := by
  intro c v M' h
  unfold opB at h
  split at h <;> first | (cases h; done) | (split at h <;> first | (cases h; done) | exact newL_ne _ _ _ h | (split at h <;> first | (cases h; done) | exact newL_ne _ _ _ h))
theorem opSl_ne {m : Bool} {a : Va} {lo hi : Option Int} {M : Mem} : ∀ c v M', opSl m a lo hi M ≠ .exc c v M' := by
  intro c v M' h
  unfold opSl at h
  split at h
  · cases h
  · split at h <;> cases h
  · split at h
    · split at h <;> cases h
    · cases h
theorem opF_ne {b : Blt} {m : Bool} {a : Va} {M : Mem} : ∀ c v M', opF b m a M ≠ .exc c v M' := by
  intro c v M' h
  by_cases hs : b = .sorted
  · subst hs
    simp only [opF, opSort] at h
    repeat' split at h
    all_goals first | (cases h; done) | exact newL_ne _ _ _ h
  by_cases hd : b = .dict
  · subst hd
    simp only [opF, opDict] at h
    repeat' split at h
    all_goals (cases h; done)
  cases b <;> simp only [opF] at h <;> first | (exact absurd rfl hs) | (exact absurd rfl hd) | (split at h <;> first | (cases h; done) | exact newL_ne _ _ _ h | (split at h <;> first | (cases h; done) | exact newL_ne _ _ _ h))

/-! ### the text's facts -/
structure Ct where
  N : List Str
  sc : Scope
  fn : Str → Bool
/-- the tables of a program -/
structure Tb where
  blt : List Str
  glb : List (Str × Va)
  gtp : List (Str × List (List Nat))
  nfn : Nat
  fnm : Nat → Str
  fps : Nat → List Str
  ncl : Nat
  cnm : Nat → Str
  cin : Nat → Option Nat
  nfl : Nat
  fln : Nat → Str
  mth : List ((Nat × Str) × Nat)
  exs : List (Nat × Str)
structure TbOk (T : Tb) (G : Glo) (mg : Str → Option Value) : Prop where
  ncl : T.ncl = G.ncl
  blt : ∀ x ∈ T.blt, mg x = none
  glb : ∀ x v, T.glb.lookup x = some v → ∃ u y, mg x = some u ∧ RelV y u ∧ ∀ ι γ H, RV ι γ H v y
  gtp : ∀ x vs, T.gtp.lookup x = some vs → ∃ a o its n, mg x = some (.ref a) ∧ G.K.lookup a = some o ∧ o.cls = .type "tuple" ∧ o.data = .seq its n ∧ its.size ≤ sizeLine ∧ Vals (vs.map fun s => V.str ⟨s.toArray⟩) its.toList
  fns : ∀ f, f < T.nfn → Binds G.K (G.fdt f) (T.fps f) []
  fnm : ∀ f x, f < T.nfn → T.fnm f = x → x ≠ "" → mg x = some (.ref (G.fad f)) ∧ PySem.W.keepIn G.K (.ref (G.fad f)) = true
  cls : ∀ c, c < T.ncl → Cls G.K (G.cls c) ∧ mg (T.cnm c) = some (.ref (G.cls c)) ∧ ∀ f, f < T.nfl → NoAttr G.K (G.cls c) (G.fld f)
  fnm2 : ∀ f, f < T.nfl → T.fln f = G.fld f
  cin : ∀ c f, c < T.ncl → T.cin c = some f → Mk G.K (G.cls c) (G.fad f)
  mth : ∀ c x f, T.mth.lookup (c, x) = some f → Meth G.K (G.cls c) x (G.fad f) ∧ ∀ g, G.fld g ≠ x
/-- the promise that a def does what g says -/
def spO (G : Glo) (g : List Va → Mem → Res Va) : Sp := fun xs H Q E => ∃ ι γ M vs, RVs ι γ H vs xs ∧ RM G ι γ M H ∧ Post G (fun c d _ H => E c d H) ι γ H [] (fun v ι' H' => ∀ x, RV ι' γ H' v x → Q x H') (g vs M)
structure CxOk (T : Tb) (G : Glo) (o : Orc) (ct : Ct) (X : Cx) (W : WX) (d : Nat) : Prop where
  N : X.N = ct.N
  sc : X.env.scope = ct.sc
  fn : X.fn = ct.fn
  nd : ct.N.Nodup
  calm : X.calm = true
  K : X.K = G.K
  tk : Takes X W
  po : PassesOwn (model X.prog X.w) X.A X.env X.xe
  room : Room d X.A
  tb : TbOk T G X.mg
  fns : ∀ f, f < T.nfn → FnOk X.prog X.w X.K X.mg X.base (L2.CX X.prog X.w) d (G.fad f) (G.fdt f) (T.fps f) (spO G (o.cl f))
  ini : ∀ f, f < T.nfn → ∃ d', d' + 1 ≤ d ∧ FnOk X.prog X.w X.K X.mg X.base (L2.CX X.prog X.w) d' (G.fad f) (G.fdt f) (T.fps f) (spO G (o.ini f))
theorem CxOk.units {T : Tb} {G : Glo} {o : Orc} {ct : Ct} {X : Cx} {W : WX} {d : Nat} (c : CxOk T G o ct X W d) : X.A.units + 64 < cLine := c.room.units
def visB (sc : Scope) (x : Str) : Bool := match sc.names.lookup x with
  | some .local | some .cell | some .free => true
  | _ => false
def locB (ct : Ct) (x : Str) : Bool := match ct.sc.names.lookup x with
  | some .local => true
  | some .cell => ct.fn x
  | _ => false
def glbB (sc : Scope) (x : Str) : Bool := match sc.names.lookup x with
  | some .globalImplicit => true
  | _ => false
def plainX (x : Str) : Bool := !(x == ("__debug__" : Str)) && !(x == ("__classdict__" : Str)) && !(x == ("__name__" : Str)) && !(x == ("super" : Str))
theorem vis_of {sc : Scope} {x : Str} (h : visB sc x = true) : Vis sc x := by
  unfold visB at h
  split at h
  · exact .inl (by assumption)
  · exact .inr (.inl (by assumption))
  · exact .inr (.inr (by assumption))
  · cases h
theorem gl_of {X : Cx} {x : Str} (h : glbB X.env.scope x = true) : Gl X x := by
  unfold glbB at h
  split at h
  · assumption
  · cases h
theorem plain_d {x : Str} (h : plainX x = true) : (x == ("__debug__" : Str)) = false ∧ (x == ("__classdict__" : Str)) = false ∧ x ≠ "__name__" ∧ (x == ("super" : Str)) = false := by
  simp only [plainX, Bool.and_eq_true, Bool.not_eq_true'] at h
  exact ⟨h.1.1.1, h.1.1.2, by simpa using h.1.2, h.2⟩

/-! ### syntax -/
theorem E.star (e : E) (r : List Expr) (env : PySem.Env) : starEach (E.py e :: r) env = (false, eval (E.py e) env) :: starEach r env := by
  cases e <;> rfl
theorem Es.star : ∀ (es : Es) (env : PySem.Env) (p : Pos), (backTo p (starEach (Es.py es) env)).any (·.1) = false
  | .nil, _, _ => rfl
  | .cons e es, env, p => by
    show (backTo p (starEach (E.py e :: Es.py es) env)).any (·.1) = false
    rw [E.star]
    show (false || (backTo p (starEach (Es.py es) env)).any (·.1)) = false
    rw [Es.star es env p]
    rfl
theorem Es.star2 : ∀ (es : Es) (env : PySem.Env) (p : Pos), (backTo p (starEach (Es.py es) env)).all (fun x => !x.1) = true
  | .nil, _, _ => rfl
  | .cons e es, env, p => by
    show (backTo p (starEach (E.py e :: Es.py es) env)).all (fun x => !x.1) = true
    rw [E.star]
    show (true && (backTo p (starEach (Es.py es) env)).all (fun x => !x.1)) = true
    rw [Es.star2 es env p]
    rfl
theorem E.plainIx (e : E) : PlainIx (E.py e) := by
  intro o i
  cases e <;> rfl
theorem E.marks (e : E) (op : CmpOp) : behindInMarks op (E.py e) = false := by
  cases e <;> rfl
/-- a test by its value -/
def E.tst : E → Bool
  | .not _ _ | .bop _ _ _ | .cmp _ _ _ _ | .chn _ _ _ _ _ _ | .inG _ _ _ _ _ _ | .isN _ _ _ _ _ | .ite _ _ _ _ => false
  | _ => true
theorem E.isTrue (e : E) (h : e.tst = true) (env : PySem.Env) (wh : Sem Value) : PySem.isTrue (E.py e) env wh = (do let v ← wh; standAt (E.py e).pos; holding [v] (truthy v)) := by
  cases e <;> first | rfl | (simp [E.tst] at h)
/-- where an attribute may be asked -/
def E.base : E → Bool
  | .var _ _ _ | .fld _ _ _ _ | .ix _ _ _ => true
  | _ => false
theorem E.attr (e : E) (h : e.base = true) (f : Str) (env : PySem.Env) (wh : Sem Value) : attributeBase (E.py e) f env wh = wh := by
  cases e <;> first | rfl | (simp [E.base] at h)
theorem E.folded (e : E) (env : PySem.Env) (x : Value) : foldedSetIterable (E.py e) env x = pure x := by
  cases e <;> rfl
theorem It'.folded (t : It') (env : PySem.Env) (x : Value) : foldedSetIterable (It'.py t) env x = pure x := by
  cases t <;> first | rfl | exact E.folded _ _ _
theorem E.swapsA (e : E) (o : Expr) (f : Str) (p : Pos) (l : Nat) (env : PySem.Env) : swapsWith (E.py e) (some (.Attribute o f p)) l env = pure false := by
  cases e <;> rfl
theorem E.swapsS (e : E) (o i : Expr) (p : Pos) (l : Nat) (env : PySem.Env) : swapsWith (E.py e) (some (.Subscript o i p)) l env = pure false := by
  cases e <;> rfl
theorem E.swapsT (e : E) (ts : List Expr) (k : Nat) (p : Pos) (l : Nat) (env : PySem.Env) : swapsWith (E.py e) (some (.Tuple ts k p)) l env = pure false := by
  cases e <;> rfl
def E.isComp : E → Bool
  | .comp _ _ _ _ _ _ _ _ => true
  | .dcm _ _ _ _ _ _ _ _ _ => true
  | _ => false
theorem E.swaps (e : E) (h : e.isComp = false) (tg : Option Expr) (l : Nat) (env : PySem.Env) : swapsWith (E.py e) tg l env = pure false := by
  cases e <;> first | rfl | (simp [E.isComp] at h)
end Dn
namespace Dn
open PySem PySem.Spec L2 PyProof.Rows
/-! ### well-formed -/
mutual
def wfTg (ct : Ct) : Tg → Bool
  | .nm i x _ => decide (ct.N[i]? = some x) && locB ct x
  | .tp ts _ _ => wfTgs ct ts
def wfTgs (ct : Ct) : Tgs → Bool
  | .nil => true
  | .cons t ts => wfTg ct t && wfTgs ct ts
end
mutual
def Tg.slots : Tg → List Nat
  | .nm i _ _ => [i]
  | .tp ts _ _ => Tgs.slots ts
def Tgs.slots : Tgs → List Nat
  | .nil => []
  | .cons t ts => t.slots ++ Tgs.slots ts
end
def Tg.isTp : Tg → Bool
  | .tp _ _ _ => true
  | _ => false
mutual
def tstOk : E → Bool
  | .ite _ _ _ _ => false
  | .not a _ => tstOk a
  | .bop _ es _ => tstsOk es
  | _ => true
def tstsOk : Es → Bool
  | .nil => true
  | .cons e es => tstOk e && tstsOk es
end
def Es.len : Es → Nat
  | .nil => 0
  | .cons _ es => es.len + 1
def Ct.blk (ct : Ct) (sc : Scope) : Ct := ⟨ct.N, relS sc ct.sc, fun x => sc.names.lookup x == some .cell⟩
def okGlb (T : Tb) (x : Str) : Va → Bool
  | .int i => match T.glb.lookup x with
    | some (.int j) => i == j
    | _ => false
  | .str s => match T.glb.lookup x with
    | some (.str t) => s == t
    | _ => false
  | _ => false
mutual
def wfE (T : Tb) (ct : Ct) : E → Bool
  | .var i x _ => decide (ct.N[i]? = some x) && visB ct.sc x && plainX x
  | .non _ _ => true
  | .bl _ _ _ => true
  | .int _ _ _ => true
  | .str _ _ _ => true
  | .glb v x _ => glbB ct.sc x && plainX x && okGlb T x v
  | .bin _ _ a b _ => wfE T ct a && wfE T ct b
  | .neg a _ => wfE T ct a
  | .not a _ => wfE T ct a
  | .bop _ es _ => wfEs T ct es && decide (es.len ≠ 0)
  | .cmp _ a b _ => wfE T ct a && wfE T ct b
  | .chn _ _ a b c _ => wfE T ct a && wfE T ct b && wfE T ct c
  | .inG _ a vs x _ _ => wfE T ct a && glbB ct.sc x && plainX x && decide (T.gtp.lookup x = some vs)
  | .isN _ a _ _ _ => wfE T ct a
  | .ite c a b _ => wfE T ct c && tstOk c && wfE T ct a && wfE T ct b
  | .tup es _ _ => wfEs T ct es
  | .lst _ es _ => wfEs T ct es
  | .dnw _ _ => true
  | .ix a b _ => wfE T ct a && wfE T ct b
  | .sl _ a lo hi _ _ => wfE T ct a && wfEs T ct lo && wfEs T ct hi
  | .fld a f x _ => wfE T ct a && a.base && decide (f < T.nfl) && decide (T.fln f = x)
  | .call f x _ es _ => wfEs T ct es && glbB ct.sc x && plainX x && decide (f < T.nfn) && decide (T.fnm f = x) && decide (x ≠ "")
  | .make c f x _ es _ => wfEs T ct es && glbB ct.sc x && plainX x && decide (f < T.nfn) && decide (c < T.ncl) && decide (T.cnm c = x) && decide (T.cin c = some f)
  | .meth c f a x q es p => wfE T ct a && a.base && wfEs T ct es && decide (c < T.ncl) && decide (f < T.nfn) && decide (T.mth.lookup (c, x) = some f) && (q.endLine == p.line) && decide (es.len < 29)
  | .blt b _ _ a _ => wfE T ct a && glbB ct.sc b.nm && decide (b.nm ∈ T.blt)
  | .isi a t _ _ _ => wfE T ct a && glbB ct.sc "isinstance" && decide (("isinstance" : Str) ∈ T.blt) && glbB ct.sc (Str.ofString t.nm) && decide (Str.ofString t.nm ∈ T.blt)
  | .app o e q p => wfE T ct o && o.base && wfE T ct e && (q.endLine == p.line)
  | .pop o q p => wfE T ct o && o.base && (q.endLine == p.line)
  | .ext o e q p => wfE T ct o && o.base && wfE T ct e && (q.endLine == p.line)
  | .isi2 a t u _ _ _ _ _ _ => wfE T ct a && glbB ct.sc "isinstance" && decide (("isinstance" : Str) ∈ T.blt) && glbB ct.sc (Str.ofString t.nm) && decide (Str.ofString t.nm ∈ T.blt) && glbB ct.sc (Str.ofString u.nm) && decide (Str.ofString u.nm ∈ T.blt)
  | .dsp ks es _ => wfEs T ct es && decide (ks.length = es.len) && decide (0 < ks.length ∧ ks.length ≤ 15)
  | .dcm _ kx vx tg it ifs sc own _ => wfI T ct it && (!it.isEnu || tg.isTp) && blkC ct.N ct.sc sc own && wfTg (ct.blk sc) tg && decide (∀ i ∈ tg.slots, i ∈ own.map (·.2)) && wfEs T (ct.blk sc) ifs && tstsOk ifs && decide (ifs.len ≤ 1) && wfE T (ct.blk sc) kx && wfE T (ct.blk sc) vx
  | .comp _ elt tg it ifs sc own _ => wfI T ct it && (it.isEnu || true) && (!it.isEnu || tg.isTp) && blkC ct.N ct.sc sc own && wfTg (ct.blk sc) tg && decide (∀ i ∈ tg.slots, i ∈ own.map (·.2)) && wfEs T (ct.blk sc) ifs && tstsOk ifs && decide (ifs.len ≤ 1) && wfE T (ct.blk sc) elt
def wfEs (T : Tb) (ct : Ct) : Es → Bool
  | .nil => true
  | .cons e es => wfE T ct e && wfEs T ct es
def wfI (T : Tb) (ct : Ct) : It' → Bool
  | .seq e => wfE T ct e
  | .rng es _ _ => wfEs T ct es && glbB ct.sc "range" && decide (("range" : Str) ∈ T.blt) && decide (1 ≤ es.len ∧ es.len ≤ 3)
  | .enu e _ _ => wfE T ct e && glbB ct.sc "enumerate" && decide (("enumerate" : Str) ∈ T.blt)
def It'.isEnu : It' → Bool
  | .enu _ _ _ => true
  | _ => false
end

/-! ### readings from the left -/
section
variable {G : Glo} {W : WX} {σ : L2.St} {H : Hp} {Q : VK}
abbrev PQ (γ : List Addr) (Q : VK) : Va → List Addr → Hp → Prop := fun v ι' H' => ∀ x, RV ι' γ H' v x → Q x H'
theorem rd_un {da : Env → Mem → Res Va} {k : Va → Mem → Res Va} (h : rdE G W (fun env M => (da env M).bind k) σ H Q) :
    rdE G W da σ H (fun x H1 => ∃ ι γ M v, RM G ι γ M H1 ∧ RV ι γ H1 v x ∧ Post G W ι γ H1 σ (PQ γ Q) (k v M)) := by
  obtain ⟨ι, γ, M, env, rs, R, p⟩ := h
  exact ⟨ι, γ, M, env, rs, R, Post.bind _ p fun v M1 ι1 H1 e R1 p1 x rx => ⟨ι1, γ, M1, v, R1, rx, p1⟩⟩
theorem rd_bin {da db : Env → Mem → Res Va} {k : Va → Va → Mem → Res Va} (h : rdE G W (fun env M => (da env M).bind fun v M => (db env M).bind fun w M => k v w M) σ H Q) :
    rdE G W da σ H (fun x H1 => rdE G W db σ H1 fun y H2 => ∃ ι γ M v w, RM G ι γ M H2 ∧ RV ι γ H2 v x ∧ RV ι γ H2 w y ∧ Post G W ι γ H2 σ (PQ γ Q) (k v w M)) := by
  obtain ⟨ι, γ, M, env, rs, R, p⟩ := h
  exact ⟨ι, γ, M, env, rs, R, Post.bind _ p fun v M1 ι1 H1 e R1 p1 x rx => ⟨ι1, γ, M1, env, rs.mono e, R1, Post.bind _ p1 fun w M2 ι2 H2 e2 R2 p2 y ry => ⟨ι2, γ, M2, v, w, R2, rx.mono e2, ry, p2⟩⟩⟩
theorem rd_args {da : Env → Mem → Res (List Va)} {k : List Va → Mem → Res Va} (h : rdE G W (fun env M => (da env M).bind k) σ H Q) :
    rdA G W da σ H (fun xs H1 => ∃ ι γ M vs, RM G ι γ M H1 ∧ RVs ι γ H1 vs xs ∧ Post G W ι γ H1 σ (PQ γ Q) (k vs M)) := by
  obtain ⟨ι, γ, M, env, rs, R, p⟩ := h
  exact ⟨ι, γ, M, env, rs, R, Post.bind _ p fun v M1 ι1 H1 e R1 p1 xs rx => ⟨ι1, γ, M1, v, R1, rx, p1⟩⟩
end
section
variable {T : Tb} {G : Glo} {o : Orc} {ct : Ct} {X : Cx} {W : WX} {d : Nat}
theorem CxOk.var (c : CxOk T G o ct X W d) {i : Nat} {x : Str} {p : Pos} (h : wfE T ct (.var i x p) = true) : PE X (.Name x p) (rdE G W (dE o (.var i x p))) := by
  simp only [wfE, Bool.and_eq_true, decide_eq_true_eq] at h
  obtain ⟨⟨h1, h2⟩, h3⟩ := h
  obtain ⟨p1, p2, _⟩ := plain_d h3
  refine PE.imp (pe_var (i := i) (by rw [c.N]; exact h1) (by rw [c.sc]; exact vis_of h2) p1 p2) fun σ H Q q => ?_
  obtain ⟨ι, γ, M, env, rs, R, p⟩ := q
  simp only [dE] at p
  split at p
  · rename_i v e
    obtain ⟨y, hy, ry⟩ := rs.at_ _ _ e
    exact ⟨y, hy, Post.here R p y ry⟩
  · exact p.elim
theorem CxOk.glb (c : CxOk T G o ct X W d) {v : Va} {x : Str} {p : Pos} (h : wfE T ct (.glb v x p) = true) : PE X (.Name x p) (rdE G W (dE o (.glb v x p))) := by
  simp only [wfE, Bool.and_eq_true] at h
  obtain ⟨⟨h1, h2⟩, h3⟩ := h
  obtain ⟨p1, p2, _⟩ := plain_d h2
  have e : T.glb.lookup x = some v := by
    unfold okGlb at h3
    split at h3
    · split at h3
      · rename_i i j q
        rw [q, beq_iff_eq.mp h3]
      · cases h3
    · split at h3
      · rename_i i j q
        rw [q, beq_iff_eq.mp h3]
      · cases h3
    · cases h3
  obtain ⟨u, y, e1, e2, e3⟩ := c.tb.glb x v e
  refine PE.imp (pe_glob (gl_of (by rw [c.sc]; exact h1)) e1 e2 p1) fun σ H Q q => ?_
  obtain ⟨ι, γ, M, env, rs, R, p⟩ := q
  simp only [dE] at p
  split at p
  · exact Post.here R p y (e3 ι γ H)
  · exact Post.here R p y (e3 ι γ H)
  · exact p.elim
theorem rdE.imp {G : Glo} {W : WX} {da : Env → Mem → Res Va} {σ : L2.St} {H : Hp} {Q Q' : VK} (h : rdE G W da σ H Q) (f : ∀ x H1, Q x H1 → Q' x H1) : rdE G W da σ H Q' := by
  obtain ⟨ι, γ, M, env, rs, R, p⟩ := h
  exact ⟨ι, γ, M, env, rs, R, p.imp fun v ι1 H1 e k x rx => f x H1 (k x rx)⟩
theorem rdA.imp {G : Glo} {W : WX} {da : Env → Mem → Res (List Va)} {σ : L2.St} {H : Hp} {Q Q' : List V → Hp → Prop} (h : rdA G W da σ H Q) (f : ∀ x H1, Q x H1 → Q' x H1) : rdA G W da σ H Q' := by
  obtain ⟨ι, γ, M, env, rs, R, p⟩ := h
  exact ⟨ι, γ, M, env, rs, R, p.imp fun v ι1 H1 e k x rx => f x H1 (k x rx)⟩
theorem CxOk.bin (c : CxOk T G o ct X W d) {m : Bool} {op : Operator} {a b : E} {p : Pos} (ha : PE X (E.py a) (rdE G W (dE o a))) (hb : PE X (E.py b) (rdE G W (dE o b))) : PE X (E.py (.bin m op a b p)) (rdE G W (dE o (.bin m op a b p))) := by
  refine PE.imp (pe_op (op_binD (G := G) m op) ha hb) fun σ H Q q => ?_
  refine (rd_bin (by simpa only [rdE, dE] using q)).imp fun x H1 k => k.imp fun y H2 k => ?_
  obtain ⟨ι2, γ2, M2, v, w, R2, rv, rw', p2⟩ := k
  exact ⟨ι2, γ2, M2, v, w, R2, rv, rw', p2.okr opB_ne⟩
theorem CxOk.neg (c : CxOk T G o ct X W d) {a : E} {p : Pos} (ha : PE X (E.py a) (rdE G W (dE o a))) : PE X (E.py (.neg a p)) (rdE G W (dE o (.neg a p))) := by
  refine PE.imp (pe_un un_neg ha) fun σ H Q q => ?_
  refine (rd_un (by simpa only [rdE, dE] using q)).imp fun x H1 k => ?_
  obtain ⟨ι, γ, M, v, R, rv, p⟩ := k
  split at p
  · cases rv
    exact ⟨_, rfl, Post.here R p _ (.int _)⟩
  · exact p.elim
theorem CxOk.not (c : CxOk T G o ct X W d) {a : E} {p : Pos} (ha : PE X (E.py a) (rdE G W (dE o a))) : PE X (E.py (.not a p)) (rdE G W (dE o (.not a p))) := by
  refine PE.imp (pe_not ha) fun σ H Q q => ?_
  refine (rd_un (by simpa only [rdE, dE] using q)).imp fun x H1 k => ?_
  obtain ⟨ι, γ, M, v, R, rv, p⟩ := k
  split at p
  · cases rv
    exact ⟨_, rfl, Post.here R p _ (.bl _)⟩
  · exact p.elim
theorem rC_of {x y : V} {H2 : Hp} {σ : L2.St} {Q : VK} {op : CmpOp} (k : ∃ ι γ M v w, RM G ι γ M H2 ∧ RV ι γ H2 v x ∧ RV ι γ H2 w y ∧ Post G W ι γ H2 σ (PQ γ Q) (Res.ofO M ((opC op v w M).map .bl))) : rC G op x y H2 Q := by
  obtain ⟨ι2, γ2, M2, v, w, R2, rv, rw', p2⟩ := k
  obtain ⟨z, e, pz⟩ := Post.ofO R2 p2
  obtain ⟨b, e1, e2⟩ := Option.map_eq_some_iff.mp e
  subst e2
  exact ⟨ι2, γ2, M2, v, w, b, R2, rv, rw', e1, pz _ (.bl b)⟩
theorem CxOk.cmp (c : CxOk T G o ct X W d) {op : CmpOp} {a b : E} {p : Pos} (ha : PE X (E.py a) (rdE G W (dE o a))) (hb : PE X (E.py b) (rdE G W (dE o b))) : PE X (E.py (.cmp op a b p)) (rdE G W (dE o (.cmp op a b p))) := by
  refine PE.imp (pe_cmpR (op_cmpD (G := G) c.units op) ha hb (E.marks b op)) fun σ H Q q => ?_
  exact (rd_bin (by simpa only [rdE, dE] using q)).imp fun x H1 k => k.imp fun y H2 k => rC_of k
/-- a test's reading from that of the value -/
theorem rdT_of {da : Env → Mem → Res Va} {σ : L2.St} {H : Hp} {Q : Bool → Hp → Prop} (h : rdT G W (fun env M => (da env M).bind asB) σ H Q) : rdE G W da σ H (fun x H1 => ∃ k, x = .bl k ∧ Q k H1) := by
  obtain ⟨ι, γ, M, env, rs, R, p⟩ := h
  refine ⟨ι, γ, M, env, rs, R, Post.bind _ p fun v M1 ι1 H1 e R1 p1 x rx => ?_⟩
  unfold asB at p1
  split at p1
  · cases rx
    exact ⟨_, rfl, Post.here R1 p1⟩
  · exact p1.elim
theorem CxOk.cmpT (c : CxOk T G o ct X W d) {op : CmpOp} {a b : E} {p : Pos} (ha : PE X (E.py a) (rdE G W (dE o a))) (hb : PE X (E.py b) (rdE G W (dE o b))) : PT X (E.py (.cmp op a b p)) (rdT G W (fun env M => (dE o (.cmp op a b p) env M).bind asB)) := by
  refine PT.imp (pt_cmpR (op_cmpD (G := G) c.units op) ha hb (E.marks b op)) fun σ H Q q => ?_
  have q1 := rdT_of q
  exact (rd_bin (by simpa only [rdE, dE] using q1)).imp fun x H1 k => k.imp fun y H2 k => rC_of k
theorem chn_of {o1 o2 : CmpOp} {a b e : E} {p : Pos} {σ : L2.St} {H : Hp} {Q : VK} (q : rdE G W (dE o (.chn o1 o2 a b e p)) σ H Q) : tChain (rC G o1) (rC G o2) (rdE G W (dE o a)) (rdE G W (dE o b)) (rdE G W (dE o e)) σ H Q := by
  obtain ⟨ι, γ, M, env, rs, R, p⟩ := q
  simp only [dE] at p
  refine ⟨ι, γ, M, env, rs, R, Post.bind _ p fun v M1 ι1 H1 e1 R1 p1 x rx => ⟨ι1, γ, M1, env, rs.mono e1, R1, Post.bind _ p1 fun w M2 ι2 H2 e2 R2 p2 y ry => ?_⟩⟩
  have p3 := Post.bind (fun k ι3 H3 => H3 = H2 ∧ ι3 = ι2 → True) p2 (fun _ _ _ _ _ _ _ _ => trivial)
  cases hk : opC o1 v w M2 with
  | none => rw [hk] at p2; exact p2.elim
  | some k =>
    rw [hk] at p2
    refine ⟨ι2, γ, M2, v, w, k, R2, rx.mono e2, ry, hk, k, rfl, ?_⟩
    simp only [Res.ofO, Res.bind_ok] at p2
    cases k with
    | false =>
      rw [if_neg Bool.false_ne_true] at p2 ⊢
      exact Post.here R2 p2 _ (.bl false)
    | true =>
      rw [if_pos rfl] at p2 ⊢
      exact ⟨ι2, γ, M2, env, (rs.mono e1).mono e2, R2, Post.bind _ p2 fun u M3 ι3 H3 e3 R3 p4 z rz => rC_of ⟨ι3, γ, M3, w, u, R3, ry.mono e3, rz, p4⟩⟩
theorem lastM {o1 o2 : CmpOp} (b e : E) : lastMarks [o1, o2] [E.py b, E.py e] = false := by
  show behindInMarks o2 (E.py e) = false
  exact E.marks e o2
theorem CxOk.chn (c : CxOk T G o ct X W d) {o1 o2 : CmpOp} {a b e : E} {p : Pos} (ha : PE X (E.py a) (rdE G W (dE o a))) (hb : PE X (E.py b) (rdE G W (dE o b))) (he : PE X (E.py e) (rdE G W (dE o e))) :
    PE X (E.py (.chn o1 o2 a b e p)) (rdE G W (dE o (.chn o1 o2 a b e p))) :=
  PE.imp (pe_chain (op_cmpD (G := G) c.units o1) (op_cmpD (G := G) c.units o2) ha hb he (lastM b e)) fun σ H Q q => chn_of q
theorem CxOk.chnT (c : CxOk T G o ct X W d) {o1 o2 : CmpOp} {a b e : E} {p : Pos} (ha : PE X (E.py a) (rdE G W (dE o a))) (hb : PE X (E.py b) (rdE G W (dE o b))) (he : PE X (E.py e) (rdE G W (dE o e))) :
    PT X (E.py (.chn o1 o2 a b e p)) (rdT G W (fun env M => (dE o (.chn o1 o2 a b e p) env M).bind asB)) :=
  PT.imp (pt_chain (op_cmpD (G := G) c.units o1) (op_cmpD (G := G) c.units o2) ha hb he (lastM b e)) fun σ H Q q => chn_of (rdT_of q)
/-! `in` a tuple of the module, `is None` -/
theorem inG_rv {ι γ : List Addr} {H : Hp} {v : Va} {x : V} (h : flat v = true) (r : RV ι γ H v x) : ∀ (vs : List (List Nat)), inV x (vs.map fun s => V.str ⟨s.toArray⟩) = vs.any fun y => veq (.str y) v
  | [] => rfl
  | s :: vs => by
    unfold inV
    rw [List.map_cons, List.any_cons, List.any_cons, eqV_rv (v := .str s) (w := v) rfl h (RV.str (ι := ι) (γ := γ) (H := H) s) r]
    congr 1
    exact inG_rv h r vs
theorem strs_flat (vs : List (List Nat)) : (vs.map fun s => V.str ⟨s.toArray⟩).all flatV = true := by
  rw [List.all_map]
  exact List.all_eq_true.mpr fun _ _ => rfl
theorem inG_of (c : CxOk T G o ct X W d) {ng : Bool} {a : E} {vs : List (List Nat)} {x : Str} {q p : Pos} {b : Addr} (hs : SqT X.K (fun _ => none) b (vs.map fun s => V.str ⟨s.toArray⟩)) {σ : L2.St} {H : Hp} {Q : VK} (h : rdE G W (dE o (.inG ng a vs x q p)) σ H Q) :
    tOp (rIn X.K ng) (rdE G W (dE o a)) (tC (.ref b)) σ H Q := by
  refine (rd_un (by simpa only [rdE, dE] using h)).imp fun y H1 k => ?_
  obtain ⟨ι, γ, M, v, R, rv, p⟩ := k
  split at p
  · rename_i hf
    have hs' : SqT X.K H1 b (vs.map fun s => V.str ⟨s.toArray⟩) := by
      rcases hs with (z | ⟨_, z⟩) | z
      · cases z
      · cases z
      · exact .inr z
    refine ⟨b, _, rfl, .inr hs', flat_rv hf rv, strs_flat vs, ?_⟩
    rw [inG_rv hf rv vs]
    exact Post.here R p _ (.bl _)
  · exact p.elim
theorem CxOk.inG (c : CxOk T G o ct X W d) {ng : Bool} {a : E} {vs : List (List Nat)} {x : Str} {q p : Pos} (h : wfE T ct (.inG ng a vs x q p) = true) (ha : PE X (E.py a) (rdE G W (dE o a))) :
    PE X (E.py (.inG ng a vs x q p)) (rdE G W (dE o (.inG ng a vs x q p))) ∧ PT X (E.py (.inG ng a vs x q p)) (rdT G W (fun env M => (dE o (.inG ng a vs x q p) env M).bind asB)) := by
  simp only [wfE, Bool.and_eq_true, decide_eq_true_eq] at h
  obtain ⟨⟨⟨h0, h1⟩, h2⟩, h3⟩ := h
  obtain ⟨p1, p2, _⟩ := plain_d h2
  obtain ⟨b, ob, its, n, e1, e2, e3, e4, e5, e6⟩ := c.tb.gtp x vs h3
  have hs : SqT X.K (fun _ => none) b (vs.map fun s => V.str ⟨s.toArray⟩) := .inr ⟨ob, its, n, by rw [c.K]; exact e2, e3, e4, e5, e6⟩
  have hb : PE X (.Name x q) (tC (.ref b)) := pe_glob (gl_of (by rw [c.sc]; exact h1)) e1 rfl p1
  cases ng with
  | false => exact ⟨PE.imp (pe_cmpR op_in_seq ha hb rfl) fun σ H Q q => inG_of c hs q, PT.imp (pt_cmpR op_in_seq ha hb rfl) fun σ H Q q => inG_of c hs (rdT_of q)⟩
  | true => exact ⟨PE.imp (pe_cmpR op_notIn_seq ha hb rfl) fun σ H Q q => inG_of c hs q, PT.imp (pt_cmpR op_notIn_seq ha hb rfl) fun σ H Q q => inG_of c hs (rdT_of q)⟩
theorem non_rv {ι γ : List Addr} {H : Hp} {v : Va} {x : V} (r : RV ι γ H v x) : v.isNon = decide (x = .non) := by
  cases r <;> simp [Va.isNon]
theorem isN_of {ng : Bool} {a : E} {k : Nat} {q p : Pos} {σ : L2.St} {H : Hp} {Q : VK} (h : rdE G W (dE o (.isN ng a k q p)) σ H Q) : rdE G W (dE o a) σ H (fun x H1 => Q (.bl (if ng then !decide (x = .non) else decide (x = .non))) H1) := by
  refine (rd_un (by simpa only [rdE, dE] using h)).imp fun y H1 k => ?_
  obtain ⟨ι, γ, M, v, R, rv, p⟩ := k
  have := Post.here R p _ (.bl _)
  rw [non_rv rv] at this
  exact this
theorem CxOk.isN (c : CxOk T G o ct X W d) {ng : Bool} {a : E} {k : Nat} {q p : Pos} (ha : PE X (E.py a) (rdE G W (dE o a))) :
    PE X (E.py (.isN ng a k q p)) (rdE G W (dE o (.isN ng a k q p))) ∧ PT X (E.py (.isN ng a k q p)) (rdT G W (fun env M => (dE o (.isN ng a k q p) env M).bind asB)) := by
  cases ng with
  | false => exact ⟨PE.imp (pe_cmp (pc_isN ha) rfl) fun σ H Q q => isN_of q, PT.imp (pt_cmp (pc_isN ha) rfl) fun σ H Q q => isN_of (rdT_of q)⟩
  | true => exact ⟨PE.imp (pe_cmp (pc_notN ha) rfl) fun σ H Q q => isN_of q, PT.imp (pt_cmp (pc_notN ha) rfl) fun σ H Q q => isN_of (rdT_of q)⟩
theorem CxOk.ite (c : CxOk T G o ct X W d) {e a b : E} {p : Pos} (he : PT X (E.py e) (rdT G W (fun env M => (dE o e env M).bind asB))) (ha : PE X (E.py a) (rdE G W (dE o a))) (hb : PE X (E.py b) (rdE G W (dE o b))) :
    PE X (E.py (.ite e a b p)) (rdE G W (dE o (.ite e a b p))) := by
  refine PE.imp (pe_ifExp he ha hb) fun σ H Q q => ?_
  obtain ⟨ι, γ, M, env, rs, R, p⟩ := q
  simp only [dE] at p
  have key : ∀ {r : Res Va} {k : Va → Mem → Res Va}, (∀ v M1, k v M1 = match v with | .bl true => dE o a env M1 | .bl false => dE o b env M1 | _ => .bad) → Post G W ι γ H σ (PQ γ Q) (r.bind k) →
      Post G W ι γ H σ (fun c' _ H1 => if c' = true then rdE G W (dE o a) σ H1 Q else rdE G W (dE o b) σ H1 Q) (r.bind asB) := by
    intro r k hk h
    cases r with
    | bad => exact h
    | exc c v M' => exact h
    | ok v M1 =>
      have h : Post G W ι γ H σ (PQ γ Q) (k v M1) := h
      rw [hk] at h
      show Post G W ι γ H σ _ (asB v M1)
      cases v with
      | bl t =>
        intro ι1 H1 e1 R1
        cases t with
        | true => rw [if_pos rfl]; exact ⟨ι1, γ, M1, env, rs.mono e1, R1, Post.shift e1 h⟩
        | false => rw [if_neg Bool.false_ne_true]; exact ⟨ι1, γ, M1, env, rs.mono e1, R1, Post.shift e1 h⟩
      | _ => exact h.elim
  exact ⟨ι, γ, M, env, rs, R, key (fun v M1 => rfl) p⟩
theorem CxOk.tup (c : CxOk T G o ct X W d) {es : Es} {k : Nat} {p : Pos} (ha : PA X (Es.py es) (rdA G W (dEs o es))) : PE X (E.py (.tup es k p)) (rdE G W (dE o (.tup es k p))) := by
  refine PE.imp (pe_tup ha) fun σ H Q q => ?_
  refine (rd_args (by simpa only [rdE, dE] using q)).imp fun xs H1 k => ?_
  obtain ⟨ι, γ, M, vs, R, rv, p⟩ := k
  split at p
  · rename_i hz
    refine ⟨by rw [← rv.length]; exact hz, fun t ht => ?_⟩
    exact p ι _ (Ext.val ht) (R.val ht) _ (.tup (R.fresh ht) upd_same (rv.mono (Ext.val ht)))
  · exact p.elim
theorem CxOk.lst (c : CxOk T G o ct X W d) {m : Bool} {es : Es} {p : Pos} (ha : PA X (Es.py es) (rdA G W (dEs o es))) : PE X (E.py (.lst m es p)) (rdE G W (dE o (.lst m es p))) := by
  refine PE.imp (pe_lst ha) fun σ H Q q => ?_
  refine (rd_args (by simpa only [rdE, dE] using q)).imp fun xs H1 k => ?_
  obtain ⟨ι, γ, M, vs, R, rv, p⟩ := k
  obtain ⟨hz, k⟩ := newL_at R rv (p.okr newL_ne)
  exact ⟨by rw [← rv.length]; exact hz, k⟩
theorem last_ix {ι : List Addr} {M : Mem} {p : Addr} (h : ι.length = M.length) : (ι ++ [p])[M.length]? = some p := by
  rw [List.getElem?_append_right (by rw [h]; exact Nat.le_refl _), h, Nat.sub_self]
  rfl
theorem CxOk.dnw (c : CxOk T G o ct X W d) {t : Bool} {p : Pos} : PE X (E.py (.dnw t p)) (rdE G W (dE o (.dnw t p))) := by
  cases t with
  | false =>
    refine PE.imp pe_dnewK fun σ H Q q => ?_
    obtain ⟨ι, γ, M, env, rs, R, p⟩ := q
    intro a ha
    exact p (ι ++ [a]) _ (Ext.obj ha) (R.obj ha ⟨[], upd_same, .nil⟩) _ (.ref (last_ix R.len))
  | true =>
    refine PE.imp pe_dnewT fun σ H Q q => ?_
    obtain ⟨ι, γ, M, env, rs, R, p⟩ := q
    intro a ha
    exact p (ι ++ [a]) _ (Ext.obj ha) (R.obj ha ⟨[], upd_same, .nil⟩) _ (.ref (last_ix R.len))
theorem CxOk.ix (c : CxOk T G o ct X W d) {a b : E} {p : Pos} (ha : PE X (E.py a) (rdE G W (dE o a))) (hb : PE X (E.py b) (rdE G W (dE o b))) : PE X (E.py (.ix a b p)) (rdE G W (dE o (.ix a b p))) := by
  refine PE.imp (pe_ix (ix_all (G := G) c.units) ha hb (E.plainIx b)) fun σ H Q q => ?_
  refine (rd_bin (by simpa only [rdE, dE] using q)).imp fun x H1 k => k.imp fun y H2 k => ?_
  obtain ⟨ι2, γ2, M2, v, w, R2, rv, rw', p2⟩ := k
  obtain ⟨z, e, pz⟩ := Post.ofO R2 p2
  exact ⟨ι2, γ2, M2, v, w, z, R2, rv, rw', e, pz⟩
theorem CxOk.sl (c : CxOk T G o ct X W d) {m : Bool} {a : E} {lo hi : Es} {q p : Pos} (ha : PE X (E.py a) (rdE G W (dE o a))) (hl : PO X (Es.py lo).head? (rdO G W (dO o lo))) (hh : PO X (Es.py hi).head? (rdO G W (dO o hi))) :
    PE X (E.py (.sl m a lo hi q p)) (rdE G W (dE o (.sl m a lo hi q p))) := by
  refine PE.imp (pe_slice (sl_all (G := G) m) ha hl hh) fun σ H Q h => ?_
  obtain ⟨ι, γ, M, env, rs, R, p⟩ := h
  simp only [dE] at p
  refine ⟨ι, γ, M, env, rs, R, Post.bind _ p fun v M1 ι1 H1 e1 R1 p1 x rx => ⟨ι1, γ, M1, env, rs.mono e1, R1, Post.bind _ p1 fun l M2 ι2 H2 e2 R2 p2 => ⟨ι2, γ, M2, env, (rs.mono e1).mono e2, R2, Post.bind _ p2 fun u M3 ι3 H3 e3 R3 p3 => ?_⟩⟩⟩
  exact ⟨ι3, γ, M3, v, R3, (rx.mono e2).mono e3, p3.okr opSl_ne⟩
theorem look_lookup {fs : List (Nat × Va)} {gs : List (Str × V)} {ι γ : List Addr} {H : Hp} (r : RKV G.fld ι γ H fs gs) (f : Nat) : ∀ v, look fs f = some v → ∃ x, gs.lookup (G.fld f) = some x ∧ RV ι γ H v x := by
  induction r with
  | nil => intro v h; cases h
  | @cons k v x l m h r ih =>
    intro w hw
    by_cases e : k = f
    · subst e
      simp only [look, if_pos] at hw
      cases hw
      exact ⟨x, by simp [List.lookup], h⟩
    · simp only [look, if_neg e] at hw
      obtain ⟨y, h1, h2⟩ := ih w hw
      have hne : (G.fld f == G.fld k) = false := beq_eq_false_iff_ne.mpr fun z => e (G.fldI _ _ z).symm
      exact ⟨y, by simp only [List.lookup, hne]; exact h1, h2⟩
theorem no_lookup {fs : List (Nat × Va)} {gs : List (Str × V)} {ι γ : List Addr} {H : Hp} (r : RKV G.fld ι γ H fs gs) {x : Str} (hx : ∀ g, G.fld g ≠ x) : gs.lookup x = none := by
  induction r with
  | nil => rfl
  | @cons k v y l m h r ih =>
    have hne : (x == G.fld k) = false := beq_eq_false_iff_ne.mpr fun z => hx k z.symm
    simp only [List.lookup, hne]
    exact ih
theorem CxOk.fld (c : CxOk T G o ct X W d) {a : E} {f : Nat} {x : Str} {p : Pos} (h : wfE T ct (.fld a f x p) = true) (ha : PE X (E.py a) (rdE G W (dE o a))) : PE X (E.py (.fld a f x p)) (rdE G W (dE o (.fld a f x p))) := by
  simp only [wfE, Bool.and_eq_true, decide_eq_true_eq] at h
  obtain ⟨⟨⟨_, hbase⟩, hf⟩, hx⟩ := h
  refine PE.imp (pe_fld ha (E.attr a hbase _ _ _)) fun σ H Q q => ?_
  refine (rd_un (by simpa only [rdE, dE] using q)).imp fun y H1 k => ?_
  obtain ⟨ι, γ, M, v, R, rv, p⟩ := k
  obtain ⟨z, e, pz⟩ := Post.ofO R p
  unfold fldOf at e
  split at e
  · split at e
    · rename_i c' fs q1
      cases rv with
      | ref hn =>
        obtain ⟨lc, dx, gs, h1, _, _, h2⟩ := R.at_ _ _ _ q1 hn
        obtain ⟨y, h3, h4⟩ := look_lookup h2 f z e
        obtain ⟨k1, _, k2⟩ := c.tb.cls c' (by rw [c.tb.ncl]; exact lc)
        rw [c.tb.fnm2 f hf] at hx
        subst hx
        exact ⟨_, _, dx, gs, y, rfl, h1, by rw [c.K]; exact k1, by rw [c.K]; exact k2 f hf, h3, pz y h4⟩
    · cases e
  · cases e
end
end Dn
namespace Dn
open PySem PySem.Spec L2 PyProof.Rows
section
variable {T : Tb} {G : Glo} {o : Orc} {ct : Ct} {X : Cx} {W : WX} {d : Nat}
theorem sp_of {g : List Va → Mem → Res Va} {σ : L2.St} {Q : VK} {H : Hp} {xs : List V} {ι γ : List Addr} {M : Mem} {vs : List Va} (R : RM G ι γ M H) (r : RVs ι γ H vs xs) (p : Post G W ι γ H σ (PQ γ Q) (g vs M)) : spO G g xs H Q (WE W σ) := by
  refine ⟨ι, γ, M, vs, r, R, ?_⟩
  cases e : g vs M with
  | ok a M' => rw [e] at p; exact p
  | exc c v M' => rw [e] at p; exact p
  | bad => rw [e] at p; exact p
theorem CxOk.call (c : CxOk T G o ct X W d) {f : Nat} {x : Str} {q : Pos} {es : Es} {p : Pos} (h : wfE T ct (.call f x q es p) = true) (ha : PA X (Es.py es) (rdA G W (dEs o es))) :
    PE X (E.py (.call f x q es p)) (rdE G W (dE o (.call f x q es p))) := by
  simp only [wfE, Bool.and_eq_true, decide_eq_true_eq] at h
  obtain ⟨⟨⟨⟨⟨_, h1⟩, h2⟩, h3⟩, h4⟩, h5⟩ := h
  obtain ⟨p1, p2, _⟩ := plain_d h2
  obtain ⟨e1, e2⟩ := c.tb.fnm f x h3 h4 h5
  have hb : Binds X.K (G.fdt f) (T.fps f) [] := by rw [c.K]; exact c.tb.fns f h3
  have hk : PySem.W.keepIn X.K (.ref (G.fad f)) = true := by rw [c.K]; exact e2
  have hg : Gl X x := gl_of (by rw [c.sc]; exact h1)
  have F := c.fns f h3
  cases es with
  | nil =>
    refine ⟨fun pins s σ H Q I h => ?_⟩
    show wpAny _ _ (eval (.Call (.Name x q) [] [] p) X.env) _ _ _
    refine wpAny_Call_Name_kw (ld_glob I hg e1 ?_ p1)
    obtain ⟨ι, γ, M, env, rs, R, ps⟩ := h
    simp only [dE, dEs, Res.bind_ok] at ps
    exact PySem.W.callWith_K0 I.kIn hk (run_fnS (us := []) (vs := []) (E := WE W) F c.room hb (passAt c.tk σ) I .nil (sp_of R .nil ps))
  | cons e es =>
    refine PE.imp (pe_callS (E := WE W) F c.room hg e1 hk hb (passAt c.tk) ha p1 (E.star e _ _) (Es.star es _ _)) fun σ H Q q => ?_
    refine (rd_args (by simpa only [rdE, dE] using q)).imp fun xs H1 k => ?_
    obtain ⟨ι, γ, M, vs, R, rv, p⟩ := k
    exact sp_of R rv p
theorem CxOk.make (c : CxOk T G o ct X W d) {k f : Nat} {x : Str} {q : Pos} {es : Es} {p : Pos} (h : wfE T ct (.make k f x q es p) = true) (ha : PA X (Es.py es) (rdA G W (dEs o es))) :
    PE X (E.py (.make k f x q es p)) (rdE G W (dE o (.make k f x q es p))) := by
  simp only [wfE, Bool.and_eq_true, decide_eq_true_eq] at h
  obtain ⟨⟨⟨⟨⟨⟨_, h1⟩, h2⟩, h3⟩, h4⟩, h5⟩, h6⟩ := h
  obtain ⟨p1, p2, _⟩ := plain_d h2
  obtain ⟨k1, k2, _⟩ := c.tb.cls k h4
  rw [h5] at k2
  have hb : Binds X.K (G.fdt f) (T.fps f) [] := by rw [c.K]; exact c.tb.fns f h3
  have mk : Mk X.K (G.cls k) (G.fad f) := by rw [c.K]; exact c.tb.cin k f h4 h6
  have hg : Gl X x := gl_of (by rw [c.sc]; exact h1)
  obtain ⟨d', hd, F⟩ := c.ini f h3
  have hroom : Room (d' + 1) X.A := c.room.mono hd
  -- the reading
  have key : ∀ {xs : List V} {H1 : Hp} {σ : L2.St} {Q : VK}, (∃ ι γ M vs, RM G ι γ M H1 ∧ RVs ι γ H1 vs xs ∧ Post G W ι γ H1 σ (PQ γ Q) ((o.ini f (.ref M.length :: vs) (M ++ [.ins k []])).calm.bind (madeOf M.length))) → ∀ x dx, H1 x = none → H1 dx = none → dx ≠ x →
      spO G (o.ini f) (.ref x :: (xs ++ [])) (upd (upd H1 dx (.own x)) x (.ins (G.cls k) dx [])) (fun v H2 => v = .non ∧ Q (.ref x) H2) E0 := by
    intro xs H1 σ Q hq x dx hx hdx hne
    obtain ⟨ι, γ, M, vs, R, rv, ps⟩ := hq
    have hx2 : (upd H1 dx (.own x)) x = none := by rw [upd_ne (Ne.symm hne)]; exact hx
    have e1 : Ext ι H1 ι (upd H1 dx (.own x)) := Ext.val hdx
    have e2 : Ext ι (upd H1 dx (.own x)) (ι ++ [x]) (upd (upd H1 dx (.own x)) x (.ins (G.cls k) dx [])) := Ext.obj hx2
    have R1 : RM G ι γ M (upd H1 dx (.own x)) := R.val hdx
    have R2 := R1.obj (o := .ins (G.cls k) dx []) (ob := .ins k []) hx2 ⟨by rw [← c.tb.ncl]; exact h4, dx, [], upd_same, fun z => (List.mem_append.mp z).elim (R.freshI hdx) fun z => hne (List.mem_singleton.mp z), by rw [upd_ne hne, upd_same], .nil⟩
    rw [List.append_nil]
    refine ⟨ι ++ [x], γ, M ++ [.ins k []], .ref M.length :: vs, .cons (.ref (last_ix R.len)) ((rv.mono e1).mono e2), R2, ?_⟩
    cases hr : o.ini f (.ref M.length :: vs) (M ++ [.ins k []]) with
    | bad => rw [hr] at ps; exact ps.elim
    | exc c' v M' => rw [hr] at ps; exact ps.elim
    | ok v M' =>
      rw [hr] at ps
      have ps : Post G W ι γ H1 σ (PQ γ Q) (madeOf M.length v M') := ps
      intro ι3 H3 e3 R3 y ry
      cases v with
      | non =>
        cases ry
        have e := (e1.trans e2).trans e3
        exact ⟨rfl, ps ι3 H3 e R3 _ (.ref (e3.ix (last_ix R.len)))⟩
      | _ => exact ps.elim
  cases es with
  | nil =>
    refine PE.imp (pe_make0 mk F hroom hg k2 hb .nil passL p1) fun σ H Q q => ?_
    obtain ⟨ι, γ, M, env, rs, R, ps⟩ := q
    simp only [dE, dEs, Res.bind_ok] at ps
    exact key ⟨ι, γ, M, [], R, .nil, ps⟩
  | cons e es =>
    refine PE.imp (pe_make mk F hroom hg k2 hb .nil passL ha p1 (E.star e _ _) (Es.star es _ _)) fun σ H Q q => ?_
    exact (rd_args (by simpa only [rdE, dE] using q)).imp fun xs H1 k => key k
/-! methods -/
theorem ev_meth {env : PySem.Env} {a : E} {x : Str} {q p : Pos} {es : Es} (hbase : a.base = true) (hline : (q.endLine == p.line) = true) (hlen : (Es.py es).length < 29) :
    eval (.Call (.Attribute (E.py a) x q) (Es.py es) [] p) env = (do
      let ov ← eval (E.py a) env
      standAt q.atName
      let (f, first) ← holding [ov] (getMethod ov x (do return (← importBound (E.py a) env).getD true))
      callWith p f first (backTo p (starEach (Es.py es) env)) (backToKw p (keywordEach [] env))) := by
  rw [arm_eval_Call, E.attr a hbase]
  have hf : methodCallForm ((Es.py es).length + ([] : List Keyword).length) (backTo p (starEach (Es.py es) env)) (backToKw p (keywordEach [] env)) = true := by
    unfold methodCallForm
    rw [Es.star2]
    show (true && true && decide ((Es.py es).length + 0 + 0 < 30)) = true
    rw [decide_eq_true (by omega)]
    rfl
  have h1 : ∀ ov, methodCall (E.py a) x q p env ov ((Es.py es).length + ([] : List Keyword).length) (backTo p (starEach (Es.py es) env)) (backToKw p (keywordEach [] env)) = (do
      let (f, first) ← holding [ov] (getMethod ov x (do return (← importBound (E.py a) env).getD true))
      callWith p f first (backTo p (starEach (Es.py es) env)) (backToKw p (keywordEach [] env))) := by
    intro ov
    unfold methodCall calleeOf methodCallPos
    rw [hf, if_pos rfl, if_pos (by rw [hline]; rfl)]
    rfl
  simp only [h1]
theorem Es.lenpy : ∀ es : Es, (Es.py es).length = es.len
  | .nil => rfl
  | .cons e es => by
    show (Es.py es).length + 1 = es.len + 1
    rw [Es.lenpy es]
theorem CxOk.meth (c : CxOk T G o ct X W d) {k f : Nat} {a : E} {x : Str} {q : Pos} {es : Es} {p : Pos} (h : wfE T ct (.meth k f a x q es p) = true) (he : PE X (E.py a) (rdE G W (dE o a))) (ha : PA X (Es.py es) (rdA G W (dEs o es))) :
    PE X (E.py (.meth k f a x q es p)) (rdE G W (dE o (.meth k f a x q es p))) := by
  simp only [wfE, Bool.and_eq_true, decide_eq_true_eq] at h
  obtain ⟨⟨⟨⟨⟨⟨⟨_, hbase⟩, _⟩, h4⟩, h3⟩, h5⟩, hline⟩, hlen⟩ := h
  obtain ⟨m1, m2⟩ := c.tb.mth k x f h5
  have hm : Meth X.K (G.cls k) x (G.fad f) := by rw [c.K]; exact m1
  obtain ⟨k1, _, _⟩ := c.tb.cls k h4
  have cl : Cls X.K (G.cls k) := by rw [c.K]; exact k1
  have hb : Binds X.K (G.fdt f) (T.fps f) [] := by rw [c.K]; exact c.tb.fns f h3
  have F := c.fns f h3
  refine ⟨fun pins s σ H Q I h => ?_⟩
  have h0 : rdE G W (dE o a) σ H (fun x' H1 => ∃ a' dx fs, x' = .ref a' ∧ H1 a' = some (.ins (G.cls k) dx fs) ∧ fs.lookup x = none ∧ rdA G W (dEs o es) σ H1 (fun xs H2 => spO G (o.cl f) (x' :: xs) H2 Q (WE W σ))) := by
    obtain ⟨ι, γ, M, env, rs, R, ps⟩ := h
    simp only [dE] at ps
    refine ⟨ι, γ, M, env, rs, R, Post.bind _ ps fun v M1 ι1 H1 e1 R1 p1 y ry => ?_⟩
    cases ry with
    | ref hn =>
      simp only at p1
      split at p1
      · rename_i c' fs q1
        split at p1
        · rename_i hc
          subst hc
          obtain ⟨lc, dx, gs, z1, _, _, z2⟩ := R1.at_ _ _ _ q1 hn
          refine ⟨_, dx, gs, rfl, z1, no_lookup z2 m2, ι1, γ, M1, env, rs.mono e1, R1, Post.bind _ p1 fun vs M2 ι2 H2 e2 R2 p2 xs rxs => ?_⟩
          exact sp_of R2 (.cons (.ref (e2.ix hn)) rxs) p2
        · exact p1.elim
      · exact p1.elim
    | _ => exact p1.elim
  show wpAny _ _ (eval (.Call (.Attribute (E.py a) x q) (Es.py es) [] p) X.env) _ _ _
  refine PySem.W.methodCall_KW (thn (he.run pins s σ H _ I h0) fun u s1 ⟨x', H1, I1, rx, a', dx, fs, ex, ea, l, q1⟩ => ?_) (ev_meth hbase hline (by rw [Es.lenpy]; exact hlen))
  subst ex
  obtain rfl : u = Value.ref a' := rx
  refine getmeth_ok I1 ea cl hm l ?_
  cases es with
  | nil =>
    have q2 : spO G (o.cl f) [.ref a'] H1 Q (WE W σ) := by
      obtain ⟨ι, γ, M, env, rs, R, ps⟩ := q1
      exact ps ι H1 (Ext.refl ι H1) R [] .nil
    exact PySem.W.callWith_K0 (first := [.ref a']) I1.kIn hm.kp (run_fnS (us := [.ref a']) (vs := [.ref a']) (E := WE W) F c.room hb (passAt c.tk σ) I1 (.cons rfl .nil) q2)
  | cons e es =>
    refine PySem.W.callWith_K (first := [.ref a']) (h₀ := X.base) I.ok.mod.kin hm.kp (thn (ha.run p pins s1 σ H1 _ I1 q1) fun us s2 ⟨vs, H2, I2, r, q2⟩ => ⟨I2.kIn, ?_⟩) (E.star e _ _) (Es.star es _ _)
    exact run_fnS (us := .ref a' :: us) (vs := .ref a' :: vs) (E := WE W) F c.room hb (passAt c.tk σ) I2 (.cons rfl r) q2
/-! built-ins -/
theorem pa_one {a : E} (ha : PE X (E.py a) (rdE G W (dE o a))) : PA X [E.py a] (tCons (rdE G W (dE o a)) tNil) := pa_cons ha pa_nil (E.star a _ _)
theorem blt_of {b : Blt} {m : Bool} {q p : Pos} {a : E} {σ : L2.St} {H : Hp} {Q : VK} (h : rdE G W (dE o (.blt b m q a p)) σ H Q) :
    tCB (fun xs H Q => ∃ ι γ M a x, xs = [x] ∧ RM G ι γ M H ∧ RV ι γ H a x ∧ OkR G ι γ H Q (opF b m a M)) (tCons (rdE G W (dE o a)) tNil) σ H Q := by
  refine (rd_un (by simpa only [rdE, dE] using h)).imp fun y H1 k => ?_
  obtain ⟨ι, γ, M, v, R, rv, p⟩ := k
  exact ⟨ι, γ, M, v, y, rfl, R, rv, p.okr opF_ne⟩
theorem CxOk.blt (c : CxOk T G o ct X W d) {b : Blt} {m : Bool} {q p : Pos} {a : E} (h : wfE T ct (.blt b m q a p) = true) (ha : PE X (E.py a) (rdE G W (dE o a))) :
    PE X (E.py (.blt b m q a p)) (rdE G W (dE o (.blt b m q a p))) := by
  simp only [wfE, Bool.and_eq_true, decide_eq_true_eq] at h
  obtain ⟨⟨_, h1⟩, h2⟩ := h
  have hg : Gl X b.nm := gl_of (by rw [c.sc]; exact h1)
  have hm := c.tb.blt _ h2
  have cr := callD (X := X) (G := G) c.calm b m
  have st := E.star a [] X.env
  cases b with
  | len => exact PE.imp (pe_callB (x := "len") cr hg hm (by decide +kernel) (pa_one ha) (by decide) (by decide) st rfl) fun σ H Q q => blt_of q
  | int => exact PE.imp (pe_callTy (x := "int") cr hg hm (by decide +kernel) (pa_one ha) (by decide) (by decide) st rfl) fun σ H Q q => blt_of q
  | str => exact PE.imp (pe_callTy (x := "str") cr hg hm (by decide +kernel) (pa_one ha) (by decide) (by decide) st rfl) fun σ H Q q => blt_of q
  | tuple => exact PE.imp (pe_callTy (x := "tuple") cr hg hm (by decide +kernel) (pa_one ha) (by decide) (by decide) st rfl) fun σ H Q q => blt_of q
  | list => exact PE.imp (pe_callTy (x := "list") cr hg hm (by decide +kernel) (pa_one ha) (by decide) (by decide) st rfl) fun σ H Q q => blt_of q
  | sum => exact PE.imp (pe_callB (x := "sum") cr hg hm (by decide +kernel) (pa_one ha) (by decide) (by decide) st rfl) fun σ H Q q => blt_of q
  | all => exact PE.imp (pe_callB (x := "all") cr hg hm (by decide +kernel) (pa_one ha) (by decide) (by decide) st rfl) fun σ H Q q => blt_of q
  | sorted => exact PE.imp (pe_callB (x := "sorted") cr hg hm (by decide +kernel) (pa_one ha) (by decide) (by decide) st rfl) fun σ H Q q => blt_of q
  | dict => exact PE.imp (pe_callTy (x := "dict") cr hg hm (by decide +kernel) (pa_one ha) (by decide) (by decide) st rfl) fun σ H Q q => blt_of q
  | any => exact PE.imp (pe_callB (x := "any") cr hg hm (by decide +kernel) (pa_one ha) (by decide) (by decide) st rfl) fun σ H Q q => blt_of q
end
end Dn
namespace Dn
open PySem PySem.Spec L2 PyProof.Rows
section
variable {T : Tb} {G : Glo} {o : Orc} {ct : Ct} {X : Cx} {W : WX} {d : Nat}
/-! isinstance -/
theorem ty_rv {ι γ : List Addr} {M : Mem} {H : Hp} {v : Va} {x : V} {s : String} (R : RM G ι γ M H) (r : RV ι γ H v x) (h : tyOf M v = some s) : TyX X.K H x (.type s) := by
  cases r with
  | non => cases h; exact .base .non
  | bl b => cases h; exact .base (.bl b)
  | int i => cases h; exact .base (.int i)
  | str s => cases h; exact .base (.str _)
  | tup n e _ => cases h; exact .base (.tup e)
  | lst n e _ =>
    cases h
    rcases e with e | ⟨ob, e⟩
    · exact .base (.lst e)
    · exact .base (.frz e)
  | ref hn =>
    simp only [tyOf] at h
    split at h
    · rename_i q
      cases h
      obtain ⟨ys, h1, _⟩ := R.at_ _ _ _ q hn
      exact .base (.lst h1)
    · rename_i q
      cases h
      obtain ⟨ys, h1, _⟩ := R.at_ _ _ _ q hn
      exact .base (.dK h1)
    · rename_i q
      cases h
      obtain ⟨ys, h1, _⟩ := R.at_ _ _ _ q hn
      exact .base (.dT h1)
    · cases h
theorem kit_isT {K : PySem.W.Frag} {s : String} {t : Ty} (h : s = "NoneType" ∨ s = "bool" ∨ s = "int" ∨ s = "str" ∨ s = "tuple" ∨ s = "list" ∨ s = "dict") : PySem.W.kitOne K (.type s) (.type t.nm) = some (isT s t) := by
  refine kit_ty ?_
  rcases h with h | h | h | h | h | h | h <;> subst h <;> cases t <;> decide +kernel
theorem ty_names {M : Mem} {v : Va} {s : String} (h : tyOf M v = some s) : s = "NoneType" ∨ s = "bool" ∨ s = "int" ∨ s = "str" ∨ s = "tuple" ∨ s = "list" ∨ s = "dict" := by
  cases v <;> simp only [tyOf] at h
  · cases h; simp
  · cases h; simp
  · cases h; simp
  · cases h; simp
  · cases h; simp
  · cases h; simp
  · split at h <;> first | (cases h; simp; done) | (cases h)
theorem ty_boot (t : Ty) : bootBuiltins (Str.ofString t.nm) = some (.type t.nm) := by cases t <;> decide +kernel
theorem ty_plain (t : Ty) : Str.ofString t.nm ≠ "__name__" ∧ ((Str.ofString t.nm) == ("__debug__" : Str)) = false := by cases t <;> decide +kernel
theorem CxOk.isi (c : CxOk T G o ct X W d) {a : E} {t : Ty} {q r p : Pos} (h : wfE T ct (.isi a t q r p) = true) (ha : PE X (E.py a) (rdE G W (dE o a))) :
    PE X (E.py (.isi a t q r p)) (rdE G W (dE o (.isi a t q r p))) := by
  simp only [wfE, Bool.and_eq_true, decide_eq_true_eq] at h
  obtain ⟨⟨⟨⟨_, h1⟩, h2⟩, h3⟩, h4⟩ := h
  have hg : Gl X "isinstance" := gl_of (by rw [c.sc]; exact h1)
  have hg2 : Gl X (Str.ofString t.nm) := gl_of (by rw [c.sc]; exact h3)
  have pt : PE X (.Name (Str.ofString t.nm) r) (tC (.ty t.nm)) := pe_bltn hg2 (c.tb.blt _ h4) (ty_boot t) rfl (ty_plain t).1 (ty_plain t).2
  refine PE.imp (pe_callB (x := "isinstance") call_isi hg (c.tb.blt _ h2) (by decide +kernel) (pa_cons ha (pa_cons pt pa_nil) (E.star a _ _)) (by decide) (by decide) (E.star a _ _) rfl) fun σ H Q h => ?_
  refine (rd_un (by simpa only [rdE, dE] using h)).imp fun y H1 k => ?_
  obtain ⟨ι, γ, M, v, R, rv, p⟩ := k
  obtain ⟨z, e, pz⟩ := Post.ofO R p
  obtain ⟨b, e1, e2⟩ := Option.map_eq_some_iff.mp e
  subst e2
  obtain ⟨s, e3, e4⟩ := Option.map_eq_some_iff.mp e1
  subst e4
  exact ⟨y, .ty t.nm, .type s, .type t.nm, isT s t, rfl, .ty _, ty_rv R rv e3, kit_isT (ty_names e3), pz _ (.bl _)⟩
/-! lists' methods -/
theorem itemsO_at {ι γ : List Addr} {M : Mem} {H : Hp} {v : Va} {x : V} {zs : List Va} (R : RM G ι γ M H) (r : RV ι γ H v x) (h : itemsO M v = some zs) : ∃ n a ys, v = .ref n ∧ x = .ref a ∧ ι[n]? = some a ∧ M[n]? = some (.lst zs) ∧ H a = some (.lst ys) ∧ RVs ι γ H zs ys := by
  cases r <;> simp only [itemsO] at h <;> first | (cases h; done) | skip
  rename_i n a hn
  split at h
  · rename_i xs q
    cases h
    obtain ⟨ys, h1, h2⟩ := R.at_ _ _ _ q hn
    exact ⟨n, a, ys, rfl, rfl, hn, q, h1, h2⟩
  · cases h
theorem CxOk.app (c : CxOk T G o ct X W d) {a e : E} {q p : Pos} (h : wfE T ct (.app a e q p) = true) (ha : PE X (E.py a) (rdE G W (dE o a))) (he : PE X (E.py e) (rdE G W (dE o e))) :
    PE X (E.py (.app a e q p)) (rdE G W (dE o (.app a e q p))) := by
  simp only [wfE, Bool.and_eq_true] at h
  obtain ⟨⟨⟨_, hbase⟩, _⟩, hline⟩ := h
  refine PE.imp (pe_bm PySem.F.plainAttrs_list PySem.F.slot_list_append PySem.F.type_list_append mt_append ha (pa_one he) (E.attr a hbase _ _ _) (by rw [E.star e]; rfl) hline (E.star e _ _) rfl) fun σ H Q h => ?_
  obtain ⟨ι, γ, M, env, rs, R, ps⟩ := h
  simp only [dE] at ps
  refine ⟨ι, γ, M, env, rs, R, Post.bind _ ps fun v M1 ι1 H1 e1 R1 p1 x rx => ?_⟩
  cases hi : itemsO M1 v with
  | none => rw [hi] at p1; exact p1.elim
  | some zs =>
    rw [hi] at p1
    obtain ⟨n, a', ys, rfl, rfl, hn, q1, h1, _⟩ := itemsO_at R1 rx hi
    refine ⟨.inl ⟨rfl, _, SqL.of h1⟩, ι1, γ, M1, env, rs.mono e1, R1, Post.bind _ p1 fun w M2 ι2 H2 e2 R2 p2 y ry => ?_⟩
    unfold appTo at p2
    simp only at p2
    split at p2
    · rename_i xs q2
      split at p2
      · rename_i hz
        obtain ⟨us, g1, g2⟩ := R2.at_ _ _ _ q2 (e2.ix hn)
        have ex : Ext ι2 H2 ι2 (upd H2 a' (.lst (us ++ [y]))) := Ext.mut (e2.ix hn)
        refine ⟨a', us, y, rfl, rfl, g1, by rw [← g2.length]; exact hz, ?_⟩
        exact p2 ι2 _ ex (R2.mut (e2.ix hn) ⟨_, upd_same, (g2.append (.cons ry .nil)).mono ex⟩) _ .non
      · exact p2.elim
    · exact p2.elim
def rExtendR : V → List V → Hp → VK → Prop := fun x vs H Q => ∃ l b xs zs, x = .ref l ∧ vs = [.ref b] ∧ H l = some (.lst xs) ∧ Rd H b (.lst zs) ∧ xs.length + zs.length ≤ sizeLine ∧ Q .non (upd H l (.lst (xs ++ zs)))
theorem mt_extendR : MtM X "list.extend" rExtendR := by
  intro pins s σ H x vs v us Q I rx rv h
  obtain ⟨l, b, xs, zs, rfl, rfl, hH, hB, hz, q⟩ := h
  cases rx
  obtain ⟨u, rfl, ru⟩ := rv.one
  cases ru
  obtain ⟨z, its, n, r, hl, e⟩ := I.lstM hH
  obtain ⟨z2, its2, n2, r2, hl2, e2⟩ := rdLst I hB
  have hsz : its.toArray.size + its2.toArray.size ≤ sizeLine := by rw [List.size_toArray, List.size_toArray]; omega
  have hlong : ¬ (!its.toArray.isEmpty && Builtin.List.listTooLong (its.toArray.size + its2.toArray.size)) = true := by
    rw [notLongL hsz, Bool.and_false]
    exact Bool.false_ne_true
  refine call_meets F.slot_list_extend ⟨_, e, rfl⟩ F.entry_list_extend (F.args_list_extend_2 _ _)
    (AutoSeq1.list_extend_list_list_0 l its.toArray n b its2.toArray n2 hlong (by rw [List.size_toArray]; omega) (by omega)) ⟨e, e2, ?_⟩
  refine ⟨.non, _, I.lset (its' := its ++ its2) hH e (by simp) (r.append r2) ?_, rfl, q⟩
  rw [List.length_append]
  omega
theorem CxOk.ext (c : CxOk T G o ct X W d) {a e : E} {q p : Pos} (h : wfE T ct (.ext a e q p) = true) (ha : PE X (E.py a) (rdE G W (dE o a))) (he : PE X (E.py e) (rdE G W (dE o e))) :
    PE X (E.py (.ext a e q p)) (rdE G W (dE o (.ext a e q p))) := by
  simp only [wfE, Bool.and_eq_true] at h
  obtain ⟨⟨⟨_, hbase⟩, _⟩, hline⟩ := h
  refine PE.imp (pe_bm PySem.F.plainAttrs_list PySem.F.slot_list_extend PySem.F.type_list_extend mt_extendR ha (pa_one he) (E.attr a hbase _ _ _) (by rw [E.star e]; rfl) hline (E.star e _ _) rfl) fun σ H Q h => ?_
  obtain ⟨ι, γ, M, env, rs, R, ps⟩ := h
  simp only [dE] at ps
  refine ⟨ι, γ, M, env, rs, R, Post.bind _ ps fun v M1 ι1 H1 e1 R1 p1 x rx => ?_⟩
  cases hi : itemsO M1 v with
  | none => rw [hi] at p1; exact p1.elim
  | some zs =>
    rw [hi] at p1
    obtain ⟨n, a', ys, rfl, rfl, hn, q1, h1, _⟩ := itemsO_at R1 rx hi
    refine ⟨.inl ⟨rfl, _, SqL.of h1⟩, ι1, γ, M1, env, rs.mono e1, R1, Post.bind _ p1 fun w M2 ι2 H2 e2 R2 p2 y ry => ?_⟩
    unfold extTo at p2
    simp only at p2
    split at p2
    · rename_i xs ws q2
      split at p2
      · rename_i hz
        obtain ⟨us, g1, g2⟩ := R2.at_ _ _ _ q2 (e2.ix hn)
        cases ry with
        | lst nb hb sb =>
          refine ⟨a', _, us, _, rfl, rfl, g1, hb, by rw [← g2.length, ← sb.length]; exact hz, ?_⟩
          exact p2 ι2 _ (Ext.mut (e2.ix hn)) (R2.mut (e2.ix hn) ⟨_, upd_same, (g2.append sb).mono (Ext.mut (e2.ix hn))⟩) _ .non
      · exact p2.elim
    · exact p2.elim
theorem CxOk.pop (c : CxOk T G o ct X W d) {a : E} {q p : Pos} (h : wfE T ct (.pop a q p) = true) (ha : PE X (E.py a) (rdE G W (dE o a))) :
    PE X (E.py (.pop a q p)) (rdE G W (dE o (.pop a q p))) := by
  simp only [wfE, Bool.and_eq_true] at h
  obtain ⟨⟨_, hbase⟩, hline⟩ := h
  refine PE.imp (pe_bm0 PySem.F.plainAttrs_list PySem.F.slot_list_pop PySem.F.type_list_pop mt_pop ha (E.attr a hbase _ _ _) hline) fun σ H Q h => ?_
  refine (rd_un (by simpa only [rdE, dE] using h)).imp fun y H1 k => ?_
  obtain ⟨ι, γ, M, v, R, rv, p⟩ := k
  unfold popOf at p
  split at p
  · split at p
    · rename_i xs q1
      split at p
      · rename_i z e
        cases rv with
        | ref hn =>
          obtain ⟨us, g1, g2⟩ := R.at_ _ _ _ q1 hn
          have ex : Ext ι H1 ι (upd H1 _ (.lst us.dropLast)) := Ext.mut hn
          have hl : xs[xs.length - 1]? = some z := by rw [← List.getLast?_eq_getElem?]; exact e
          obtain ⟨u, h3, h4⟩ := g2.get hl
          rw [g2.length] at h3
          exact ⟨.inl ⟨rfl, _, SqL.of g1⟩, _, us, u, rfl, rfl, g1, h3, p ι _ ex (R.mut hn ⟨_, upd_same, g2.dropLast.mono ex⟩) _ (h4.mono ex)⟩
      · exact p.elim
    · exact p.elim
  · exact p.elim
end
end Dn
namespace Dn
open PySem PySem.Spec L2 PyProof.Rows
/-! ### targets -/
def rdG (G : Glo) (t : Tg) : TG := fun x σ H Q => ∃ ι γ M v env env', RS ι γ H env σ ∧ RM G ι γ M H ∧ RV ι γ H v x ∧ tgSet t v env = some env' ∧ ∀ σ', RS ι γ H env' σ' → (∀ vs, (∀ i ∈ t.slots, i ∈ vs) → wipe σ' vs = wipe σ vs) → Q σ' H
def rdGs (G : Glo) (ts : Tgs) : TGs := fun xs σ H Q => ∃ ι γ M vs env env', RS ι γ H env σ ∧ RM G ι γ M H ∧ RVs ι γ H vs xs ∧ tgsSet ts vs env = some env' ∧ ∀ σ', RS ι γ H env' σ' → (∀ ws, (∀ i ∈ ts.slots, i ∈ ws) → wipe σ' ws = wipe σ ws) → Q σ' H
theorem wipe_set {σ : L2.St} {i : Nat} {o : Option V} : ∀ {vs : List Nat}, i ∈ vs → wipe (σ.set i o) vs = wipe σ vs
  | [], h => by cases h
  | v :: vs, h => by
    unfold wipe
    by_cases e : v = i
    · subst e
      have : ∀ (ws : List Nat), (wipe (σ.set v o) ws).set v none = (wipe σ ws).set v none := by
        intro ws
        induction ws with
        | nil => simp [wipe, List.set_set]
        | cons w ws ih =>
          unfold wipe
          by_cases e : w = v
          · subst e
            rw [List.set_set, List.set_set, ih]
          · rw [List.set_comm _ _ e, ih, List.set_comm _ _ e]
      exact this vs
    · rw [wipe_set ((List.mem_cons.mp h).resolve_left fun z => e z.symm)]
theorem Tg.each (t : Tg) (r : List Expr) (env : PySem.Env) : assignEach (Tg.py t :: r) env = (false, assign (Tg.py t) env) :: assignEach r env := by
  cases t <;> rfl
theorem Tgs.each : ∀ (ts : Tgs) (env : PySem.Env), (assignEach (Tgs.py ts) env).findIdx? (·.1) = none
  | .nil, _ => rfl
  | .cons t ts, env => by
    show (assignEach (Tg.py t :: Tgs.py ts) env).findIdx? (·.1) = none
    rw [Tg.each, List.findIdx?_cons]
    simp only [Bool.false_eq_true, if_false]
    rw [Tgs.each ts env]
    rfl
def Tgs.len : Tgs → Nat
  | .nil => 0
  | .cons _ ts => ts.len + 1
theorem Tgs.eachLen : ∀ (ts : Tgs) (env : PySem.Env), (assignEach (Tgs.py ts) env).length = ts.len
  | .nil, _ => rfl
  | .cons t ts, env => by
    show (assignEach (Tg.py t :: Tgs.py ts) env).length = _
    rw [Tg.each, List.length_cons, Tgs.eachLen ts env]
    rfl
theorem tgs_len : ∀ {ts : Tgs} {vs : List Va} {env env' : Env}, tgsSet ts vs env = some env' → vs.length = ts.len
  | .nil, [], _, _, _ => rfl
  | .nil, _ :: _, _, _, h => by cases h
  | .cons t ts, [], _, _, h => by cases h
  | .cons t ts, v :: vs, env, env', h => by
    simp only [tgsSet] at h
    split at h
    · rw [List.length_cons, tgs_len h]; rfl
    · cases h
section
variable {T : Tb} {G : Glo} {o : Orc} {ct : Ct} {X : Cx} {W : WX} {d : Nat}
theorem loc_of (c : CxOk T G o ct X W d) {x : Str} (h : locB ct x = true) : Loc X.env.scope x ∧ (X.fn x = true ∨ X.env.scope.names.lookup x = some .local) := by
  rw [c.sc, c.fn]
  unfold locB at h
  split at h
  · exact ⟨.inl (by assumption), .inr (by assumption)⟩
  · exact ⟨.inr (by assumption), .inl h⟩
  · cases h
mutual
theorem sTg (c : CxOk T G o ct X W d) : ∀ (t : Tg), wfTg ct t = true → PG X (Tg.py t) (rdG G t)
  | .nm i x p, h => by
    simp only [wfTg, Bool.and_eq_true, decide_eq_true_eq] at h
    obtain ⟨l1, l2⟩ := loc_of c h.2
    have pg := pg_name (pos := p) (by rw [c.N]; exact c.nd) (by rw [c.N]; exact h.1) l1 l2
    refine ⟨fun pins s σ H y u Q I r hq => pg.run pins s σ H y u Q I r ?_⟩
    obtain ⟨ι, γ, M, v, env, env', rs, R, rv, e, k⟩ := hq
    simp only [tgSet, Option.some.injEq] at e
    subst e
    exact k _ (rs.set rv) fun vs hv => wipe_set (hv i (by simp [Tg.slots]))
  | .tp ts k p, h => by
    have h' : wfTgs ct ts = true := by simpa only [wfTg] using h
    have pg := pg_tup (pos := p) (k := k) c.calm (sTgs c ts h') (Tgs.eachLen ts _) (Tgs.each ts _)
    refine ⟨fun pins s σ H y u Q I r hq => pg.run pins s σ H y u Q I r ?_⟩
    obtain ⟨ι, γ, M, v, env, env', rs, R, rv, e, k⟩ := hq
    simp only [tgSet] at e
    split at e
    · rename_i vs
      cases rv with
      | tup n h1 s1 => exact ⟨_, _, rfl, SqT.of h1, by rw [← s1.length]; exact tgs_len e, ι, γ, M, vs, env, env', rs, R, s1, e, k⟩
    · cases e
theorem sTgs (c : CxOk T G o ct X W d) : ∀ (ts : Tgs), wfTgs ct ts = true → PGs X (Tgs.py ts) (rdGs G ts)
  | .nil, _ => by
    refine ⟨fun pins s σ H ys us Q I r hq => pgs_nil.run pins s σ H ys us Q I r ?_⟩
    obtain ⟨ι, γ, M, vs, env, env', rs, R, rv, e, k⟩ := hq
    cases vs with
    | nil =>
      cases rv
      simp only [tgsSet, Option.some.injEq] at e
      subst e
      exact ⟨rfl, k σ rs fun _ _ => rfl⟩
    | cons _ _ => cases e
  | .cons t ts, h => by
    simp only [wfTgs, Bool.and_eq_true] at h
    have pg := pgs_cons (sTg c t h.1) (sTgs c ts h.2) (by rw [Tg.each]; rfl)
    refine ⟨fun pins s σ H ys us Q I r hq => pg.run pins s σ H ys us Q I r ?_⟩
    obtain ⟨ι, γ, M, vs, env, env', rs, R, rv, e, k⟩ := hq
    cases rv with
    | nil => cases e
    | cons r1 r2 =>
      rename_i v x vs xs
      simp only [tgsSet] at e
      split at e
      · rename_i env1 e1
        refine ⟨x, xs, rfl, ι, γ, M, v, env, env1, rs, R, r1, e1, fun σ1 rs1 w1 => ⟨ι, γ, M, vs, env1, env', rs1, R, r2, e, fun σ2 rs2 w2 => k σ2 rs2 fun ws hw => ?_⟩⟩
        rw [w2 ws fun i hi => hw i (by simp [Tgs.slots, hi]), w1 ws fun i hi => hw i (by simp [Tgs.slots, hi])]
      · cases e
end

/-! ### what is walked -/
theorem PI.of {tg : Expr} {e : Expr} {te : TE} {r : V → Hp → (It → Hp → Prop) → Prop} (he : PE X e te) (hr : ItR X tg r) : PI X tg e (fun σ H R => te σ H fun x H1 => r x H1 R) := by
  refine ⟨fun pins s σ H R I h => ?_⟩
  exact thn (he.run pins s σ H _ I h) fun v s1 ⟨x, H1, I1, r1, q1⟩ => hr pins s1 σ H1 x v R I1 r1 q1
theorem it_seq (K : X.K = G.K) {tg : Expr} : ItR X tg (fun x H R => ∃ ι γ M v t, RM G ι γ M H ∧ RV ι γ H v x ∧ seqOf M v = some t ∧ ∀ J, JOk G t J ι γ H → R J H) := by
  intro pins s σ H x u R I r h
  obtain ⟨ι, γ, M, v, t, Rm, rv, e, k⟩ := h
  cases rv with
  | tup n h1 s1 => cases e; exact it_tup pins s σ H _ u R I r ⟨_, _, rfl, SqT.of h1, k _ (jok_tup n h1 s1)⟩
  | lst n h1 s1 => cases e; exact it_list pins s σ H _ u R I r ⟨_, _, rfl, .inl h1, k _ (jok_list n h1 s1)⟩
  | str z => cases e; exact it_str pins s σ H _ u R I r ⟨_, rfl, k _ jok_txt⟩
  | ref hn =>
    simp only [seqOf] at e
    split at e
    · rename_i xs q
      cases e
      obtain ⟨ys, h1, _⟩ := Rm.at_ _ _ _ q hn
      exact it_list pins s σ H _ u R I r ⟨_, _, rfl, SqL.of h1, k _ (jok_live hn)⟩
    · cases e
  | non => cases e
  | bl _ => cases e
  | int _ => cases e
theorem CxOk.seq (c : CxOk T G o ct X W d) {e : E} {tg : Expr} (he : PE X (E.py e) (rdE G W (dE o e))) : PI X tg (It'.py (.seq e)) (rdI G W (dI o (.seq e))) := by
  refine PI.imp (PI.of he (it_seq c.K)) fun σ H R h => ?_
  obtain ⟨ι, γ, M, env, rs, Rm, p⟩ := h
  simp only [dI] at p
  refine ⟨ι, γ, M, env, rs, Rm, Post.bind _ p fun v M1 ι1 H1 e1 R1 p1 x rx => ?_⟩
  obtain ⟨t, e2, k⟩ := Post.ofO R1 p1
  exact ⟨ι1, γ, M1, v, t, R1, rx, e2, k⟩
theorem rng62_of {i : Int} (h : rng62 i = true) : -(2 ^ 62) ≤ i ∧ i < 2 ^ 62 := by
  simpa [rng62, Bool.and_eq_true] using h
theorem dEs_len {env : Env} : ∀ {es : Es} {M M' : Mem} {vs : List Va}, dEs o es env M = .ok vs M' → vs.length = es.len
  | .nil, M, M', vs, h => by
    simp only [dEs] at h
    cases h
    rfl
  | .cons e es, M, M', vs, h => by
    simp only [dEs] at h
    cases h1 : dE o e env M with
    | bad => rw [h1] at h; cases h
    | exc c v M' => rw [h1] at h; cases h
    | ok v M1 =>
      rw [h1, Res.bind_ok] at h
      cases h2 : dEs o es env M1 with
      | bad => rw [h2] at h; cases h
      | exc c v M' => rw [h2] at h; cases h
      | ok ws M2 =>
        rw [h2, Res.bind_ok] at h
        cases h
        rw [List.length_cons, dEs_len h2]
        rfl
theorem CxOk.rng (c : CxOk T G o ct X W d) {es : Es} {q p : Pos} {tg : Expr} (h : wfI T ct (.rng es q p) = true) (ha : PA X (Es.py es) (rdA G W (dEs o es))) : PI X tg (It'.py (.rng es q p)) (rdI G W (dI o (.rng es q p))) := by
  simp only [wfI, Bool.and_eq_true, decide_eq_true_eq] at h
  obtain ⟨⟨⟨_, h1⟩, h2⟩, h3, h4⟩ := h
  have hg : Gl X "range" := gl_of (by rw [c.sc]; exact h1)
  have hm := c.tb.blt _ h2
  have rd : ∀ {σ : L2.St} {H : Hp} {R : It → Hp → Prop}, rdI G W (dI o (.rng es q p)) σ H R → rdA G W (dEs o es) σ H (fun xs H1 => ∃ ι γ M vs t, RM G ι γ M H1 ∧ RVs ι γ H1 vs xs ∧ vs.length = es.len ∧ rangeOf vs = some t ∧ ∀ J, JOk G t J ι γ H1 → R J H1) := by
    intro σ H R h
    obtain ⟨ι, γ, M, env, rs, Rm, p⟩ := h
    simp only [dI] at p
    refine ⟨ι, γ, M, env, rs, Rm, Post.bindE _ p fun v M1 hv ι1 H1 e1 R1 p1 x rx => ?_⟩
    obtain ⟨t, e2, k⟩ := Post.ofO R1 p1
    exact ⟨ι1, γ, M1, v, t, R1, rx, dEs_len hv, e2, k⟩
  cases es with
  | nil => simp [Es.len] at h3
  | cons e1 es =>
    cases es with
    | nil =>
      refine PI.imp (pi_range1 (p := q) (pos := p) hg hm ha (by rw [E.star]; rfl)) fun σ H R h => (rd h).imp fun xs H1 k => ?_
      obtain ⟨ι, γ, M, vs, t, Rm, rv, hl, e, k⟩ := k
      unfold rangeOf at e
      split at e
      · split at e
        · rename_i j hj
          cases e
          cases rv with
          | cons r1 r2 =>
            cases r1; cases r2
            exact ⟨j, rfl, (rng62_of hj).1, (rng62_of hj).2, k _ jok_rng1⟩
        · cases e
      · simp [Es.len] at hl
      · simp [Es.len] at hl
      · cases e
    | cons e2 es =>
      cases es with
      | nil =>
        refine PI.imp (pi_range2 (p := q) (pos := p) hg hm ha (by rw [E.star, E.star]; rfl) (by rw [E.star]; rfl)) fun σ H R h => (rd h).imp fun xs H1 k => ?_
        obtain ⟨ι, γ, M, vs, t, Rm, rv, hl, e, k⟩ := k
        unfold rangeOf at e
        split at e
        · simp [Es.len] at hl
        · split at e
          · rename_i i j hj
            rw [Bool.and_eq_true] at hj
            cases e
            cases rv with
            | cons r1 r2 =>
              cases r1
              cases r2 with
              | cons r2 r3 =>
                cases r2; cases r3
                exact ⟨i, j, rfl, ⟨(rng62_of hj.1).1, (rng62_of hj.1).2, (rng62_of hj.2).1, (rng62_of hj.2).2⟩, k _ jok_rng1⟩
          · cases e
        · simp [Es.len] at hl
        · cases e
      | cons e3 es =>
        cases es with
        | nil =>
          refine PI.imp (pi_range3 (p := q) (pos := p) hg hm ha (E.star e1 _ _) (Es.star (.cons e2 (.cons e3 .nil)) _ _)) fun σ H R h => (rd h).imp fun xs H1 k => ?_
          obtain ⟨ι, γ, M, vs, t, Rm, rv, hl, e, k⟩ := k
          unfold rangeOf at e
          split at e
          · simp [Es.len] at hl
          · simp [Es.len] at hl
          · split at e
            · rename_i i j c' hj
              rw [Bool.and_eq_true, Bool.and_eq_true, decide_eq_true_eq] at hj
              obtain ⟨⟨hi, hj⟩, rfl⟩ := hj
              cases e
              cases rv with
              | cons r1 r2 =>
                cases r1
                cases r2 with
                | cons r2 r3 =>
                  cases r2
                  cases r3 with
                  | cons r3 r4 =>
                    cases r3; cases r4
                    exact ⟨i, j, -1, _, rfl, RgC.neg (rng62_of hi).1 (rng62_of hi).2 (rng62_of hj).1 (rng62_of hj).2, k _ jok_rng⟩
            · cases e
          · cases e
        | cons e4 es => simp only [Es.len] at h4; omega
/-! enumerate -/
theorem CxOk.enu (c : CxOk T G o ct X W d) {a : E} {q p : Pos} {elts : List Expr} {kk : Nat} {tpos : Pos} (h : wfI T ct (.enu a q p) = true) (ha : PE X (E.py a) (rdE G W (dE o a))) : PI X (.Tuple elts kk tpos) (It'.py (.enu a q p)) (rdI G W (dI o (.enu a q p))) := by
  simp only [wfI, Bool.and_eq_true, decide_eq_true_eq] at h
  obtain ⟨⟨_, h1⟩, h2⟩ := h
  have hg : Gl X "enumerate" := gl_of (by rw [c.sc]; exact h1)
  have hm := c.tb.blt _ h2
  refine ⟨fun pins s σ H R I h => ?_⟩
  have h0 : tCons (rdE G W (dE o a)) tNil σ H (fun vs H1 => ∃ x, vs = [x] ∧ ∃ ι γ M v t, RM G ι γ M H1 ∧ RV ι γ H1 v x ∧ enuOf M v = some t ∧ ∀ J, JOk G t J ι γ H1 → R J H1) := by
    obtain ⟨ι, γ, M, env, rs, Rm, p⟩ := h
    simp only [dI] at p
    refine ⟨ι, γ, M, env, rs, Rm, Post.bind _ p fun v M1 ι1 H1 e1 R1 p1 x rx => ?_⟩
    obtain ⟨t, e2, k⟩ := Post.ofO R1 p1
    exact ⟨x, rfl, ι1, γ, M1, v, t, R1, rx, e2, k⟩
  have st : starEach [E.py a] X.env = [(false, eval (E.py a) X.env)] := by rw [E.star]; rfl
  show wpAny _ _ (eval (.Call (.Name "enumerate" q) [E.py a] [] p) X.env) _ _ _
  refine Call_ (ld_blt I hg hm boot_enumerate (PyProof.Rows.callWith_type1 (thn ((pa_one ha).run p pins s σ H _ I h0) fun us s1 ⟨vs, H1, I1, r1, q1⟩ => ?_) st rfl))
  obtain ⟨x, rfl, ι, γ, M, v, t, Rm, rv, e, k⟩ := q1
  obtain ⟨u, rfl, ru⟩ := vals1 r1
  have lists : ∀ {b : Addr} {ys : List V}, x = .ref b → SqL X.K H1 b ys → R (Ite X.K b) H1 → wpAny (model X.prog X.w) X.A (PySem.call (.type "enumerate") [u]) (fun v s1 => wpAny (model X.prog X.w) X.A (pyIter v) (PIE X pins σ (.Tuple elts kk tpos) R) X.xe s1) X.xe s1 := by
    intro b ys ex hq q
    subst ex
    cases ru
    obtain ⟨its, rv, p', hz⟩ := I1.list hq
    refine call_enumerate_list p'.isList fun h' he hit hsz hk => wpAny_pyIter_enum he ?_
    have I2 : Inv X pins σ H1 { s1 with heap := h' } := I1.kept (t' := s1.toks) hk
    refine ⟨s1.heap.objs.size + 1, [s1.heap.objs.size + 1, s1.heap.objs.size], _, _, H1, rfl, I2, turn_enum b (s1.heap.objs.size + 1) s1.heap.objs.size, ⟨⟨.none, he⟩, hit, Nat.succ_ne_self _⟩, fun b hb => ?_, q⟩
    have e' : b = s1.heap.objs.size + 1 ∨ b = s1.heap.objs.size := by simpa using hb
    have hle : s1.heap.objs.size ≤ b := by
      rcases e' with z | z
      · rw [z]; exact Nat.le_add_right _ _
      · rw [z]; exact Nat.le_refl _
    exact I1.fpOk hle (I1.hok.fresh hle)
  cases rv with
  | tup n h1 s1' =>
    cases e
    cases ru
    obtain ⟨its, rv, p', hz⟩ := I1.tuple (SqT.of h1)
    refine call_enumerate_tuple (show s1.heap.IsTuple _ its.toArray from p') fun h' he hit hsz hk => wpAny_pyIter_enum he ?_
    have I2 : Inv X pins σ H1 { s1 with heap := h' } := I1.kept (t' := s1.toks) hk
    refine ⟨s1.heap.objs.size + 1, [s1.heap.objs.size + 1, s1.heap.objs.size], _, _, H1, rfl, I2, turn_enumT _ (s1.heap.objs.size + 1) s1.heap.objs.size, ⟨⟨.none, he⟩, hit, Nat.succ_ne_self _⟩, fun b hb => ?_, k _ (jok_enumT n h1 s1')⟩
    have e' : b = s1.heap.objs.size + 1 ∨ b = s1.heap.objs.size := by simpa using hb
    have hle : s1.heap.objs.size ≤ b := by
      rcases e' with z | z
      · rw [z]; exact Nat.le_add_right _ _
      · rw [z]; exact Nat.le_refl _
    exact I1.fpOk hle (I1.hok.fresh hle)
  | lst n h1 s1' => cases e; exact lists rfl (.inl h1) (k _ (jok_enum n h1 s1'))
  | ref hn =>
    simp only [enuOf] at e
    split at e
    · rename_i xs q1
      cases e
      obtain ⟨ys, h1, _⟩ := Rm.at_ _ _ _ q1 hn
      exact lists rfl (SqL.of h1) (k _ (jok_liveE hn))
    · cases e
  | non => cases e
  | bl _ => cases e
  | int _ => cases e
  | str _ => cases e
end
end Dn
namespace Dn
open PySem PySem.Spec L2 PyProof.Rows
section
variable {T : Tb} {G : Glo} {o : Orc} {ct : Ct} {X : Cx} {W : WX} {d : Nat}
theorem RS.wipe {ι γ : List Addr} {H : Hp} {env : Env} {σ : L2.St} (r : RS ι γ H env σ) : ∀ vs : List Nat, RS ι γ H (wipeE env vs) (L2.wipe σ vs)
  | [] => r
  | v :: vs => (RS.wipe r vs).clear v
theorem wipe_wipe {σ : L2.St} {vs : List Nat} : ∀ {ws : List Nat}, (∀ i ∈ ws, i ∈ vs) → L2.wipe (L2.wipe σ ws) vs = L2.wipe σ vs
  | [], _ => rfl
  | w :: ws, h => by
    show L2.wipe ((L2.wipe σ ws).set w none) vs = _
    rw [wipe_set (h w List.mem_cons_self)]
    exact wipe_wipe fun i hi => h i (List.mem_cons_of_mem _ hi)
/-- the context of a comprehension's block -/
theorem CxOk.blk (c : CxOk T G o ct X W d) (sc : Scope) (s : Shared) (H : Hp) (C : Addr) (cl : List (Str × Addr)) (fp : List Addr) : CxOk T G o (ct.blk sc) (X.blk s H sc (compEnvC sc cl C X.env) fp) (fun _ _ _ _ => False) d where
  N := c.N
  sc := by
    show (compEnvC sc cl C X.env).scope = relS sc ct.sc
    rw [← c.sc]
    rfl
  fn := rfl
  nd := c.nd
  calm := c.calm
  K := c.K
  tk := takes0
  po := PassesOwn.never
  room := c.room
  tb := c.tb
  fns := c.fns
  ini := c.ini
theorem post_calm {α β : Type} {ι γ ι2 γ2 : List Addr} {H H2 : Hp} {σ σ2 : L2.St} {P : β → List Addr → Hp → Prop} {W2 : WX} {r : Res α} {k : α → Mem → Res β} (Q' : α → List Addr → Hp → Prop) (h : Post G W ι γ H σ P (r.calm.bind k))
    (hk : ∀ a M1, Post G W ι γ H σ P (k a M1) → ∀ ι' H', Ext ι2 H2 ι' H' → RM G ι' γ2 M1 H' → Q' a ι' H') : Post G W2 ι2 γ2 H2 σ2 Q' r := by
  cases r with
  | ok a M1 => exact fun ι' H' e R => hk a M1 h ι' H' e R
  | exc c v M' => exact h.elim
  | bad => exact h.elim
theorem tLc_of (c : CxOk T G o ct X W d) {m : Bool} {elt : E} {tg : Tg} {it : It'} {ifs : Es} {sc : Scope} {own : List (Str × Nat)} {p : Pos} (hsl : ∀ i ∈ tg.slots, i ∈ own.map (·.2)) {σ : L2.St} {H : Hp} {Q : VK}
    (h : rdE G W (dE o (.comp m elt tg it ifs sc own p)) σ H Q) :
    tLc (rdI G W (dI o it)) (rdG G tg) (rdT G (fun _ _ _ _ => False) (dC o ifs)) (rdE G (fun _ _ _ _ => False) (dE o elt)) (own.map (·.2)) σ H Q := by
  obtain ⟨ι0, γ, M0, env, rs, R0, p⟩ := h
  simp only [dE] at p
  refine ⟨ι0, γ, M0, env, rs, R0, Post.bind _ p fun t M1 ι1 H1 e1 R1 p1 J hJ D hD => ?_⟩
  generalize hvs : own.map (·.2) = vs at p1 hsl
  have gr : Gr γ H1 (D :: γ) := fun g hg => (List.mem_cons.mp hg).elim (fun z => .inr (by rw [z]; exact hD)) .inl
  have outD : Out ι1 γ D := R1.fresh hD
  refine ⟨fun i k H => ∃ ι M acc ys, Ext ι1 H1 ι H ∧ RM G ι (D :: γ) M H ∧ RS ι (D :: γ) H (wipeE env vs) (L2.wipe σ vs) ∧ H D = some (.lst ys) ∧ RVs ι (D :: γ) H acc ys ∧
    Post G W ι1 γ H1 σ (PQ γ Q) (compL t (tgSet tg) (fun env M => dC o ifs env M) (fun env M => dE o elt env M) (wipeE env vs) (finC m) k i acc M), ⟨fuelW, ι1, M1, [], [], Ext.val hD, R1.apart hD, ((rs.mono e1).wipe vs).apart hD, upd_same, .nil, p1⟩, ?_⟩
  rintro i k H2 ⟨ι, M, acc, ys, ex, R, rs2, hDl, racc, ps⟩
  have nown : ∀ x, H2 D ≠ some (.own x) := fun x z => by rw [hDl] at z; cases z
  have nD : D ∉ ι := (R.res D List.mem_cons_self).1
  cases k with
  | zero => exact ps.elim
  | succ k =>
    unfold compL at ps
    split at ps
    · exact ps.elim
    · rename_i hat
      refine .inl ⟨hJ.stop ι (D :: γ) M H2 i ex gr R hat, ?_⟩
      cases m with
      | true =>
        have ps : Post G W ι1 γ H1 σ (PQ γ Q) (.ok (.ref M.length) (M ++ [.lst acc])) := ps
        refine ps (ι ++ [D]) H2 ⟨?_, fun q hq hn => ?_, ex.keep⟩ (R.adopt outD.2 nown ⟨ys, hDl, racc.adopt⟩) _ (.ref (last_ix R.len))
        · obtain ⟨r, e⟩ := ex.pre
          exact ⟨r ++ [D], by rw [e, List.append_assoc]⟩
        · rcases List.mem_append.mp hq with hq | hq
          · exact ex.new q hq hn
          · rw [List.mem_singleton.mp hq]; exact hD
      | false =>
        have ps : Post G W ι1 γ H1 σ (PQ γ Q) (.ok (.lst acc) M) := ps
        exact ps ι H2 ex (R.weak fun _ h => List.mem_cons_of_mem _ h) _ (.lst ⟨nD, outD.2⟩ (.inl hDl) (racc.weak fun _ h => List.mem_cons_of_mem _ h))
    · rename_i v hat
      obtain ⟨hgo, hyl⟩ := hJ.go ι (D :: γ) M H2 i v ex gr R hat
      split at ps
      · exact ps.elim
      · rename_i env1 hset
        refine .inr ⟨hgo, _, fun H' h => h, fun x H3 hy => ?_⟩
        obtain ⟨e3, R3, rv⟩ := hyl x H3 hy
        refine ⟨ι, D :: γ, M, v, wipeE env vs, env1, rs2.mono e3, R3, rv, hset, fun σ2 rs3 wp => ⟨(wp vs hsl).trans (wipe_wipe fun _ h => h), ι, D :: γ, M, env1, rs3, R3, ?_⟩⟩
        have hD3 : H3 D = some (.lst ys) := e3.keep D _ nD hDl
        refine post_calm _ ps fun b M2 ps2 ι4 H4 e4 R4 => ?_
        have hD4 : H4 D = some (.lst ys) := e4.keep D _ nD hD3
        cases b with
        | false =>
          rw [if_neg Bool.false_ne_true] at ps2
          dsimp only
          rw [if_neg Bool.false_ne_true]
          exact ⟨k, Nat.lt_succ_self k, ι4, M2, acc, ys, (ex.trans e3).trans e4, R4, (rs2.mono e3).mono e4, hD4, (racc.mono e3).mono e4, ps2⟩
        | true =>
          rw [if_pos rfl] at ps2
          dsimp only
          rw [if_pos rfl]
          refine ⟨ι4, D :: γ, M2, env1, rs3.mono e4, R4, post_calm _ ps2 fun w M3 ps3 ι5 H5 e5 R5 y ry => ?_⟩
          have nD4 : D ∉ ι4 := (R4.res D List.mem_cons_self).1
          have hD5 : H5 D = some (.lst ys) := e5.keep D _ nD4 hD4
          split at ps3
          · rename_i hz
            refine ⟨ys, hD5, by rw [← racc.length]; exact hz, k, Nat.lt_succ_self k, ι5, M3, acc ++ [w], ys ++ [y], ?_, ?_, ?_, upd_same, ?_, ps3⟩
            · have e := ((ex.trans e3).trans e4).trans e5
              refine ⟨e.pre, e.new, fun a u ha hu => ?_⟩
              rw [upd_ne (ne_of_none hu hD)]
              exact e.keep a u ha hu
            · exact R5.stir List.mem_cons_self fun x z => by rw [hD5] at z; cases z
            · exact (((rs2.mono e3).mono e4).mono e5).stir List.mem_cons_self
            · exact ((((racc.mono e3).mono e4).mono e5).append (.cons ry .nil)).stir List.mem_cons_self
          · exact ps3.elim
theorem CxOk.comp (c : CxOk T G o ct X W d) {m : Bool} {elt : E} {tg : Tg} {it : It'} {ifs : Es} {sc : Scope} {own : List (Str × Nat)} {p : Pos} (h : wfE T ct (.comp m elt tg it ifs sc own p) = true) (hi : PI X (Tg.py tg) (It'.py it) (rdI G W (dI o it)))
    (ht : ∀ X', CxOk T G o (ct.blk sc) X' (fun _ _ _ _ => False) d → PTs X' (Es.py ifs) (rdT G (fun _ _ _ _ => False) (dC o ifs)))
    (he : ∀ X', CxOk T G o (ct.blk sc) X' (fun _ _ _ _ => False) d → PE X' (E.py elt) (rdE G (fun _ _ _ _ => False) (dE o elt))) : PE X (E.py (.comp m elt tg it ifs sc own p)) (rdE G W (dE o (.comp m elt tg it ifs sc own p))) := by
  simp only [wfE, Bool.and_eq_true, decide_eq_true_eq] at h
  obtain ⟨⟨⟨⟨⟨⟨⟨_, hblk⟩, htg⟩, hsl⟩, _⟩, _⟩, _⟩, _⟩ := h
  refine PE.imp (pe_lc (own := own) c.calm (by rw [c.N]; exact c.nd) hi (by rw [c.N, c.sc]; exact blkOk_by hblk) (fun s H C cl fp => sTg (c.blk sc s H C cl fp) tg htg) (fun s H C cl fp => ht _ (c.blk sc s H C cl fp)) (fun s H C cl fp => he _ (c.blk sc s H C cl fp)) (It'.folded it _)) fun σ H Q q => ?_
  exact tLc_of c hsl q
/-! ### lists of expressions -/
theorem CxOk.nil (c : CxOk T G o ct X W d) : PA X (Es.py .nil) (rdA G W (dEs o .nil)) :=
  PA.imp pa_nil fun σ H Q h => let ⟨ι, γ, M, env, rs, R, p⟩ := h; Post.here R p [] .nil
theorem CxOk.cons (c : CxOk T G o ct X W d) {e : E} {es : Es} (he : PE X (E.py e) (rdE G W (dE o e))) (hs : PA X (Es.py es) (rdA G W (dEs o es))) : PA X (Es.py (.cons e es)) (rdA G W (dEs o (.cons e es))) := by
  refine PA.imp (pa_cons he hs (E.star e _ _)) fun σ H Q h => ?_
  obtain ⟨ι, γ, M, env, rs, R, p⟩ := h
  simp only [dEs] at p
  exact ⟨ι, γ, M, env, rs, R, Post.bind _ p fun v M1 ι1 H1 e1 R1 p1 x rx => ⟨ι1, γ, M1, env, rs.mono e1, R1, Post.bind _ p1 fun vs M2 ι2 H2 e2 R2 p2 xs rxs => Post.here R2 p2 (x :: xs) (.cons (rx.mono e2) rxs)⟩⟩
theorem CxOk.oNil (c : CxOk T G o ct X W d) : PO X (Es.py .nil).head? (rdO G W (dO o .nil)) :=
  ⟨fun pins s σ H Q I h => po_none.run pins s σ H Q I (let ⟨ι, γ, M, env, rs, R, p⟩ := h; Post.here R p)⟩
theorem CxOk.oCons (c : CxOk T G o ct X W d) {e : E} {es : Es} (he : PE X (E.py e) (rdE G W (dE o e))) : PO X (Es.py (.cons e es)).head? (rdO G W (dO o (.cons e es))) := by
  refine ⟨fun pins s σ H Q I h => (po_some he).run pins s σ H Q I ?_⟩
  obtain ⟨ι, γ, M, env, rs, R, p⟩ := h
  simp only [dO] at p
  refine ⟨ι, γ, M, env, rs, R, Post.bind _ p fun v M1 ι1 H1 e1 R1 p1 x rx => ?_⟩
  split at p1
  · cases rx
    exact ⟨_, rfl, Post.here R1 p1⟩
  · exact p1.elim
theorem CxOk.cNil (c : CxOk T G o ct X W d) : PTs X (Es.py .nil) (rdT G W (dC o .nil)) :=
  ⟨fun pins s σ H Q I h => pts_nil.run pins s σ H Q I (let ⟨ι, γ, M, env, rs, R, p⟩ := h; Post.here R p)⟩
theorem CxOk.cOne (c : CxOk T G o ct X W d) {e : E} (he : PT X (E.py e) (rdT G W (fun env M => (dE o e env M).bind asB))) : PTs X (Es.py (.cons e .nil)) (rdT G W (dC o (.cons e .nil))) :=
  ⟨fun pins s σ H Q I h => (pts_one he).run pins s σ H Q I (by simpa only [rdT, dC] using h)⟩
/-! and, or -/
theorem CxOk.bOne (c : CxOk T G o ct X W d) {op : BoolOp} {e : E} {p : Pos} (he : PE X (E.py e) (rdE G W (dE o e))) : PE X (.BoolOp op (Es.py (.cons e .nil)) p) (rdE G W (dB o op (.cons e .nil))) :=
  PE.imp (pe_one he) fun σ H Q q => by simpa only [rdE, dB] using q
def isAnd : BoolOp → Bool
  | .And => true
  | .Or => false
theorem dB_of {op : BoolOp} {e e' : E} {es : Es} {σ : L2.St} {H : Hp} {Q : VK} (q : rdE G W (dB o op (.cons e (.cons e' es))) σ H Q) :
    rdE G W (dE o e) σ H (fun x H1 => ∃ c, x = .bl c ∧ if c = isAnd op then rdE G W (dB o op (.cons e' es)) σ H1 Q else Q (.bl c) H1) := by
  obtain ⟨ι, γ, M, env, rs, R, p⟩ := q
  simp only [dB] at p
  refine ⟨ι, γ, M, env, rs, R, Post.bind _ p fun v M1 ι1 H1 e1 R1 p1 x rx => ?_⟩
  cases op <;> cases rx <;> first | exact p1.elim | skip
  · rename_i b
    cases b with
    | true => exact ⟨true, rfl, by rw [if_pos (by decide)]; exact ⟨ι1, γ, M1, env, rs.mono e1, R1, p1⟩⟩
    | false => exact ⟨false, rfl, by rw [if_neg (by decide)]; exact Post.here R1 p1 _ (.bl false)⟩
  · rename_i b
    cases b with
    | true => exact ⟨true, rfl, by rw [if_neg (by decide)]; exact Post.here R1 p1 _ (.bl true)⟩
    | false => exact ⟨false, rfl, by rw [if_pos (by decide)]; exact ⟨ι1, γ, M1, env, rs.mono e1, R1, p1⟩⟩
theorem CxOk.bMore (c : CxOk T G o ct X W d) {op : BoolOp} {e e' : E} {es : Es} {p : Pos} (he : PE X (E.py e) (rdE G W (dE o e))) (hs : PE X (.BoolOp op (Es.py (.cons e' es)) p) (rdE G W (dB o op (.cons e' es)))) :
    PE X (.BoolOp op (Es.py (.cons e (.cons e' es))) p) (rdE G W (dB o op (.cons e (.cons e' es)))) := by
  cases op with
  | And =>
    refine PE.imp (pe_and he hs) fun σ H Q q => (dB_of q).imp fun x H1 k => ?_
    obtain ⟨b, rfl, k⟩ := k
    refine ⟨b, rfl, ?_⟩
    cases b with
    | true => rw [if_pos (by decide)] at k ⊢; exact k
    | false => rw [if_neg (by decide)] at k; rw [if_neg (by decide)]; exact k
  | Or =>
    refine PE.imp (pe_or he hs) fun σ H Q q => (dB_of q).imp fun x H1 k => ?_
    obtain ⟨b, rfl, k⟩ := k
    refine ⟨b, rfl, ?_⟩
    cases b with
    | true => rw [if_neg (by decide)] at k; rw [if_pos (by decide)]; exact k
    | false => rw [if_pos (by decide)] at k; rw [if_neg (by decide)]; exact k
theorem CxOk.wOne (c : CxOk T G o ct X W d) {op : BoolOp} {e : E} {p : Pos} (he : PT X (E.py e) (rdT G W (fun env M => (dE o e env M).bind asB))) : PW X (.BoolOp op (Es.py (.cons e .nil)) p) (rdT G W (fun env M => (dB o op (.cons e .nil) env M).bind asB)) := by
  cases op with
  | And => exact PW.imp (pw_and1 he) fun σ H Q q => by simpa only [rdT, dB] using q
  | Or => exact PW.imp (pw_or1 he) fun σ H Q q => by simpa only [rdT, dB] using q
theorem CxOk.wMore (c : CxOk T G o ct X W d) {op : BoolOp} {e e' : E} {es : Es} {p : Pos} (he : PT X (E.py e) (rdT G W (fun env M => (dE o e env M).bind asB))) (hs : PW X (.BoolOp op (Es.py (.cons e' es)) p) (rdT G W (fun env M => (dB o op (.cons e' es) env M).bind asB))) :
    PW X (.BoolOp op (Es.py (.cons e (.cons e' es))) p) (rdT G W (fun env M => (dB o op (.cons e (.cons e' es)) env M).bind asB)) := by
  have key : ∀ {σ : L2.St} {H : Hp} {Q : Bool → Hp → Prop}, rdT G W (fun env M => (dB o op (.cons e (.cons e' es)) env M).bind asB) σ H Q →
      rdT G W (fun env M => (dE o e env M).bind asB) σ H (fun b H1 => if b = isAnd op then rdT G W (fun env M => (dB o op (.cons e' es) env M).bind asB) σ H1 Q else Q b H1) := by
    intro σ H Q h
    obtain ⟨ι, γ, M, env, rs, R, p⟩ := h
    simp only [dB] at p
    refine ⟨ι, γ, M, env, rs, R, ?_⟩
    show Post G W ι γ H σ _ ((dE o e env M).bind asB)
    cases hr : dE o e env M with
    | bad => rw [hr] at p; exact p
    | exc c v M' => rw [hr] at p; exact p
    | ok v M' =>
      rw [hr] at p
      simp only [Res.bind_ok] at p ⊢
      cases v with
      | bl b =>
        intro ι1 H1 e1 R1
        cases op <;> cases b <;> simp only at p ⊢
        · rw [if_neg (by decide)]; exact p ι1 H1 e1 R1
        · rw [if_pos (by decide)]; exact ⟨ι1, γ, M', env, rs.mono e1, R1, Post.shift e1 p⟩
        · rw [if_pos (by decide)]; exact ⟨ι1, γ, M', env, rs.mono e1, R1, Post.shift e1 p⟩
        · rw [if_neg (by decide)]; exact p ι1 H1 e1 R1
      | _ => cases op <;> exact p.elim
  cases op with
  | And =>
    refine PW.imp (pw_and he hs) fun σ H Q q => ?_
    obtain ⟨ι, γ, M, env, rs, R, p⟩ := key q
    refine ⟨ι, γ, M, env, rs, R, p.imp fun b ι1 H1 e1 k => ?_⟩
    cases b with
    | true => rw [if_pos (by decide)] at k ⊢; exact k
    | false => rw [if_neg (by decide)] at k; rw [if_neg (by decide)]; exact k
  | Or =>
    refine PW.imp (pw_or he hs) fun σ H Q q => ?_
    obtain ⟨ι, γ, M, env, rs, R, p⟩ := key q
    refine ⟨ι, γ, M, env, rs, R, p.imp fun b ι1 H1 e1 k => ?_⟩
    cases b with
    | true => rw [if_neg (by decide)] at k; rw [if_pos (by decide)]; exact k
    | false => rw [if_pos (by decide)] at k; rw [if_neg (by decide)]; exact k
theorem CxOk.notT (c : CxOk T G o ct X W d) {a : E} {p : Pos} (ha : PT X (E.py a) (rdT G W (fun env M => (dE o a env M).bind asB))) : PT X (E.py (.not a p)) (rdT G W (fun env M => (dE o (.not a p) env M).bind asB)) := by
  refine PT.imp (pt_not ha) fun σ H Q q => ?_
  obtain ⟨ι, γ, M, env, rs, R, p⟩ := q
  simp only [dE] at p
  refine ⟨ι, γ, M, env, rs, R, ?_⟩
  show Post G W ι γ H σ _ ((dE o a env M).bind asB)
  cases hr : dE o a env M with
  | bad => rw [hr] at p; exact p
  | exc c v M' => rw [hr] at p; exact p
  | ok v M' =>
    rw [hr] at p
    simp only [Res.bind_ok] at p ⊢
    cases v with
    | bl b => exact p
    | _ => exact p.elim
theorem CxOk.valT (c : CxOk T G o ct X W d) {a : E} (h : a.tst = true) (ha : PE X (E.py a) (rdE G W (dE o a))) : PT X (E.py a) (rdT G W (fun env M => (dE o a env M).bind asB)) :=
  PT.imp (pt_val ha (E.isTrue a h _)) fun σ H Q q => rdT_of q
end
end Dn
namespace Dn
open PySem PySem.Spec L2 PyProof.Rows
/-! ### keys that stand once -/
section
variable {κ κ' : Type} [DecidableEq κ] [DecidableEq κ']
theorem put_mem {l : List (κ × Va)} {k : κ} {v : Va} {a : κ} (h : a ∈ (put l k v).map (·.1)) : a ∈ l.map (·.1) ∨ a = k := by
  induction l with
  | nil => simp [put] at h; exact .inr h
  | cons q r ih =>
    obtain ⟨b, u⟩ := q
    unfold put at h
    split at h
    · exact .inl (by simpa using h)
    · simp only [List.map_cons, List.mem_cons] at h ⊢
      rcases h with h | h
      · exact .inl (.inl h)
      · exact (ih h).elim (fun z => .inl (.inr z)) .inr
theorem put_nodup {l : List (κ × Va)} (k : κ) (v : Va) (h : (l.map (·.1)).Nodup) : ((put l k v).map (·.1)).Nodup := by
  induction l with
  | nil => simp [put]
  | cons q r ih =>
    obtain ⟨b, u⟩ := q
    rw [List.map_cons, List.nodup_cons] at h
    unfold put
    split
    · rw [List.map_cons, List.nodup_cons]; exact h
    · rename_i hne
      rw [List.map_cons, List.nodup_cons]
      exact ⟨fun z => (put_mem z).elim h.1 hne, ih h.2⟩
theorem nodup_inj {f : κ → κ'} (inj : ∀ a b, f a = f b → a = b) : ∀ {l : List κ}, l.Nodup → (l.map f).Nodup
  | [], _ => by simp
  | a :: l, h => by
    rw [List.nodup_cons] at h
    rw [List.map_cons, List.nodup_cons]
    refine ⟨fun z => ?_, nodup_inj inj h.2⟩
    obtain ⟨b, hb, e⟩ := List.mem_map.mp z
    rw [inj _ _ e] at hb
    exact h.1 hb
theorem keysR {f : κ → κ'} {ι γ : List Addr} {H : Hp} : ∀ {l : List (κ × Va)} {m : List (κ' × V)}, RKV f ι γ H l m → m.map (·.1) = (l.map (·.1)).map f
  | _, _, .nil => rfl
  | _, _, .cons _ r => by rw [List.map_cons, List.map_cons, List.map_cons, keysR r]
theorem nodupR {f : κ → κ'} (inj : ∀ a b, f a = f b → a = b) {ι γ : List Addr} {H : Hp} {l : List (κ × Va)} {m : List (κ' × V)} (r : RKV f ι γ H l m) (h : (l.map (·.1)).Nodup) : (m.map (·.1)).Nodup := by
  rw [keysR r]
  exact nodup_inj inj h
end
section
variable {T : Tb} {G : Glo} {o : Orc} {ct : Ct} {X : Cx} {W : WX} {d : Nat}
/-! isinstance with two classes -/
theorem kitAny2 {K : PySem.W.Frag} {s : String} {t u : Ty} (h : s = "NoneType" ∨ s = "bool" ∨ s = "int" ∨ s = "str" ∨ s = "tuple" ∨ s = "list" ∨ s = "dict") : PySem.W.kitAny K (.type s) [.type t.nm, .type u.nm] = some (isT s t || isT s u) := by
  have e1 := kit_isT (K := K) (t := t) h
  have e2 := kit_isT (K := K) (t := u) h
  unfold PySem.W.kitAny
  rw [e1]
  cases isT s t with
  | true => rfl
  | false =>
    show PySem.W.kitAny K (.type s) [.type u.nm] = _
    unfold PySem.W.kitAny
    rw [e2]
    cases isT s u <;> rfl
theorem CxOk.isi2 (c : CxOk T G o ct X W d) {a : E} {t u : Ty} {q r1 r2 tp : Pos} {k : Nat} {p : Pos} (h : wfE T ct (.isi2 a t u q r1 r2 tp k p) = true) (ha : PE X (E.py a) (rdE G W (dE o a))) :
    PE X (E.py (.isi2 a t u q r1 r2 tp k p)) (rdE G W (dE o (.isi2 a t u q r1 r2 tp k p))) := by
  simp only [wfE, Bool.and_eq_true, decide_eq_true_eq] at h
  obtain ⟨⟨⟨⟨⟨⟨_, h1⟩, h2⟩, h3⟩, h4⟩, h5⟩, h6⟩ := h
  have hg : Gl X "isinstance" := gl_of (by rw [c.sc]; exact h1)
  have pt : ∀ (t : Ty) (r : Pos), glbB ct.sc (Str.ofString t.nm) = true → Str.ofString t.nm ∈ T.blt → PE X (.Name (Str.ofString t.nm) r) (tC (.ty t.nm)) := fun t r g b =>
    pe_bltn (gl_of (by rw [c.sc]; exact g)) (c.tb.blt _ b) (ty_boot t) rfl (ty_plain t).1 (ty_plain t).2
  have ptt : PE X (.Tuple [.Name (Str.ofString t.nm) r1, .Name (Str.ofString u.nm) r2] k tp) (tTup (tCons (tC (.ty t.nm)) (tCons (tC (.ty u.nm)) tNil))) := pe_tup (pa_cons (pt t r1 h3 h4) (pa_cons (pt u r2 h5 h6) pa_nil))
  refine PE.imp (pe_callB (x := "isinstance") call_isiT hg (c.tb.blt _ h2) (by decide +kernel) (pa_cons ha (pa_cons ptt pa_nil) (E.star a _ _)) (by decide) (by decide) (E.star a _ _) rfl) fun σ H Q h => ?_
  refine (rd_un (by simpa only [rdE, dE] using h)).imp fun y H1 k => ?_
  obtain ⟨ι, γ, M, v, R, rv, p⟩ := k
  obtain ⟨z, e, pz⟩ := Post.ofO R p
  obtain ⟨s, e3, e4⟩ := Option.map_eq_some_iff.mp e
  subst e4
  refine ⟨by show 2 ≤ sizeLine; decide, fun A hA => ?_⟩
  have ex := Ext.val (ι := ι) (o := HO.tup [.ty t.nm, .ty u.nm]) hA
  refine ⟨y, A, [.ty t.nm, .ty u.nm], .type s, [.type t.nm, .type u.nm], isT s t || isT s u, rfl, upd_same, .cons (.ty _) (.cons (.ty _) .nil), ty_rv (R.val hA) (rv.mono ex) e3, kitAny2 (ty_names e3), ?_⟩
  obtain ⟨b', e5, e6⟩ : ∃ b', tyOf M v = some b' ∧ b' = s := ⟨s, e3, rfl⟩
  have p' : Post G W ι γ H1 σ (PQ γ Q) (.ok (.bl (isT s t || isT s u)) M) := by
    rw [e3] at p
    exact p
  exact p' ι _ ex (R.val hA) _ (.bl _)
/-! {'a': e, ..} -/
def trsOf (G : Glo) (W : WX) (o : Orc) : List (List Nat × Nat × Pos) → Es → List (TE × TE)
  | k :: ks, .cons e es => (tC (.str ⟨k.1.toArray⟩), rdE G W (dE o e)) :: trsOf G W o ks es
  | _, _ => []
def keysPy (ks : List (List Nat × Nat × Pos)) : List (Option Expr) := ks.map fun x => some (.Constant (.str ⟨x.1.toArray⟩) x.2.1 x.2.2)
theorem ok_cons {e : E} {es : Es} {env : Env} {M M2 : Mem} {ws : List Va} (h : dEs o (.cons e es) env M = .ok ws M2) : ∃ v vs M1, ws = v :: vs ∧ dE o e env M = .ok v M1 ∧ dEs o es env M1 = .ok vs M2 := by
  simp only [dEs] at h
  cases h1 : dE o e env M with
  | bad => rw [h1] at h; cases h
  | exc c v M' => rw [h1] at h; cases h
  | ok v M1 =>
    rw [h1, Res.bind_ok] at h
    cases h2 : dEs o es env M1 with
    | bad => rw [h2] at h; cases h
    | exc c v M' => rw [h2] at h; cases h
    | ok vs M3 =>
      rw [h2, Res.bind_ok] at h
      cases h
      exact ⟨v, vs, M1, rfl, rfl, h2⟩
theorem pairs_of {env : Env} {σ : L2.St} {γ : List Addr} {W : WX} : ∀ (es : Es) (ks : List (List Nat × Nat × Pos)) (vs : List Va) (M M2 : Mem) (ι : List Addr) (H : Hp) (Q : List (V × V) → Hp → Prop), dEs o es env M = .ok vs M2 → ks.length = es.len → RS ι γ H env σ → RM G ι γ M H →
    (∀ ι2 H2 ys, Ext ι H ι2 H2 → RM G ι2 γ M2 H2 → RVs ι2 γ H2 vs ys → Q ((ks.map fun k => V.str ⟨k.1.toArray⟩).zip ys) H2) → tPairs (trsOf G W o ks es) σ H Q
  | .nil, ks, vs, M, M2, ι, H, Q, h, hl, rs, R, k => by
    cases ks with
    | cons _ _ => simp [Es.len] at hl
    | nil =>
      simp only [dEs] at h
      cases h
      exact k ι H [] (Ext.refl _ _) R .nil
  | .cons e es, ks, vs, M, M2, ι, H, Q, h, hl, rs, R, k => by
    cases ks with
    | nil => simp [Es.len] at hl
    | cons c ks =>
      obtain ⟨v, vs', M1, rfl, h1, h2⟩ := ok_cons h
      refine ⟨ι, γ, M, env, rs, R, ?_⟩
      show Post G W ι γ H σ _ (dE o e env M)
      rw [h1]
      intro ι1 H1 e1 R1 x rx
      refine pairs_of es ks vs' M1 M2 ι1 H1 _ h2 (by simpa [Es.len] using hl) (rs.mono e1) R1 fun ι2 H2 ys e2 R2 ry => ?_
      exact k ι2 H2 (x :: ys) (e1.trans e2) R2 (.cons (rx.mono e2) ry)
theorem merge_rkv {ι γ : List Addr} {H : Hp} : ∀ (ks : List (List Nat)) (vs : List Va) (ys : List V) (l : List (Sum Int (List Nat) × Va)) (m : List (Key × V)), (l.map (·.1)).Nodup → ks.length = vs.length → RKV kyS ι γ H l m → RVs ι γ H vs ys →
    RKV kyS ι γ H (mergeD l ks vs) (mergeK m ((ks.map fun k => (Sum.inr ⟨k.toArray⟩ : Key)).zip ys))
  | [], [], _, l, m, hn, hl, r, .nil => r
  | [], _ :: _, _, _, _, _, hl, _, _ => by simp at hl
  | _ :: _, [], _, _, _, _, hl, _, _ => by simp at hl
  | k :: ks, v :: vs, _, l, m, hn, hl, r, .cons rv rs => by
    have := merge_rkv ks vs _ (put l (.inr k) v) (putK m (.inr ⟨k.toArray⟩) _) (put_nodup _ _ hn) (by simpa using hl) (r.put (fun _ _ => kyS_inj) (.inr k) rv (nodupR (fun _ _ => kyS_inj) r hn)) rs
    exact this
theorem zip_kv : ∀ (ks : List (List Nat × Nat × Pos)) (ys : List V), (ks.map fun k => V.str ⟨k.1.toArray⟩).zip ys = (((ks.map (·.1)).map fun k => (Sum.inr ⟨k.toArray⟩ : Key)).zip ys).map fun kv => (kV kv.1, kv.2)
  | [], ys => by simp
  | k :: ks, [] => by simp
  | k :: ks, y :: ys => by
    simp only [List.map_cons, List.zip_cons_cons]
    rw [zip_kv ks ys]
    rfl
theorem CxOk.dsp (c : CxOk T G o ct X W d) {ks : List (List Nat × Nat × Pos)} {es : Es} {p : Pos} (h : wfE T ct (.dsp ks es p) = true) (hp : ∀ pos, PPs X pos (keysPy ks) (Es.py es) (trsOf G W o ks es)) : PE X (E.py (.dsp ks es p)) (rdE G W (dE o (.dsp ks es p))) := by
  simp only [wfE, Bool.and_eq_true, decide_eq_true_eq] at h
  obtain ⟨⟨_, hl⟩, h0, h15⟩ := h
  refine PE.imp (pe_disp (hp p) ?_ ?_ ?_ ?_) fun σ H Q q => ?_
  · simp [keysPy]
  · rw [Es.lenpy]; simpa [keysPy] using hl
  · intro z
    have := congrArg List.length z
    simp [keysPy] at this
    subst this
    simp at h0
  · simpa [keysPy] using h15
  obtain ⟨ι, γ, M, env, rs, R, ps⟩ := q
  simp only [dE] at ps
  intro D hD
  cases hv : dEs o es env M with
  | bad => rw [hv] at ps; exact ps.elim
  | exc c' v M' => rw [hv] at ps; exact ps.elim
  | ok vs M2 =>
    rw [hv] at ps
    have ps : Post G W ι γ H σ (PQ γ Q) (newD (ks.map (·.1)) vs M2) := ps
    unfold newD at ps
    split at ps
    · rename_i hlv
      have outD : Out ι γ D := R.fresh hD
      refine pairs_of (W := W) (γ := D :: γ) es ks vs M M2 ι _ _ hv hl (rs.apart hD) (R.apart hD) fun ι2 H2 ys e2 R2 ry => ?_
      have hD2 : H2 D = some (.dK []) := e2.keep D _ outD.1 upd_same
      have nD : D ∉ ι2 := (R2.res D List.mem_cons_self).1
      refine ⟨hD2, ((ks.map (·.1)).map fun k => (Sum.inr ⟨k.toArray⟩ : Key)).zip ys, zip_kv ks ys, ?_, ?_⟩
      · rw [List.length_zip]
        simp
        omega
      · have rk := merge_rkv (ks.map (·.1)) vs ys [] [] (by simp) hlv.symm .nil ry
        have R3 := R2.stir (o := .dK (mergeK [] (((ks.map (·.1)).map fun k => (Sum.inr ⟨k.toArray⟩ : Key)).zip ys))) List.mem_cons_self fun x z => by rw [hD2] at z; cases z
        refine ps (ι2 ++ [D]) _ ⟨?_, fun a ha hn => ?_, fun a u ha hu => ?_⟩ (R3.adopt outD.2 (fun x z => by rw [upd_same] at z; cases z) ⟨_, upd_same, (rk.stir List.mem_cons_self).adopt⟩) _ (.ref (last_ix R2.len))
        · obtain ⟨r, e⟩ := e2.pre
          exact ⟨r ++ [D], by rw [e, List.append_assoc]⟩
        · rcases List.mem_append.mp ha with ha | ha
          · have := e2.new a ha hn
            by_cases z : a = D
            · rw [z]; exact hD
            · rw [upd_ne z] at this; exact this
          · rw [List.mem_singleton.mp ha]; exact hD
        · have ne : a ≠ D := ne_of_none hu hD
          rw [upd_ne ne]
          exact e2.keep a u ha (by rw [upd_ne ne]; exact hu)
    · exact ps.elim
end
end Dn
namespace Dn
open PySem PySem.Spec L2 PyProof.Rows
/-- how a dict of such keys stands in memory -/
structure DKind (κ : Type) [DecidableEq κ] where
  κ' : Type
  dec : DecidableEq κ'
  f : κ → κ'
  inj : ∀ a b, f a = f b → a = b
  ho : List (κ' × V) → HO
  ob : List (κ × Va) → Ob
  ky : Va → Option κ
  ro : ∀ (G : Glo) (ι γ : List Addr) (H : Hp) (a : Addr) (l : List (κ × Va)) (m : List (κ' × V)), H a = some (ho m) → RKV f ι γ H l m → RO G ι γ H a (ob l)
  nown : ∀ m x, ho m ≠ .own x
  put_ : ∀ (ι γ : List Addr) (H : Hp) (D : Addr) (l : List (κ × Va)) (m : List (κ' × V)) (k : Va) (y : V) (c : κ) (x : V), H D = some (ho m) → m.length < sizeLine → ky k = some c → RV ι γ H k y → DPut H D y x (upd H D (ho (@putK κ' dec m (f c) x)))
def kindK : DKind (Sum Int (List Nat)) where
  κ' := Key
  dec := inferInstance
  f := kyS
  inj := fun _ _ => kyS_inj
  ho := .dK
  ob := .dic
  ky := keyOf
  ro := fun G ι γ H a l m h r => ⟨m, h, r⟩
  nown := fun m x z => by cases z
  put_ := fun ι γ H D l m k y c x h hl hk r => by
    rw [key_rv hk r]
    exact DPut.k h hl
def kindT : DKind (List (Sum Int (List Nat))) where
  κ' := List Key
  dec := inferInstance
  f := List.map kyS
  inj := fun _ _ => kyS_map_inj
  ho := .dT
  ob := .dit
  ky := kyT
  ro := fun G ι γ H a l m h r => ⟨m, h, r⟩
  nown := fun m x z => by cases z
  put_ := fun ι γ H D l m k y c x h hl hk r => by
    cases r <;> simp only [kyT] at hk <;> first | (cases hk; done) | skip
    rename_i a xs ys n ha rs
    rw [keys_rv hk rs] at ha
    exact DPut.t h ha hl
section
variable {T : Tb} {G : Glo} {o : Orc} {ct : Ct} {X : Cx} {W : WX} {d : Nat}
theorem tDc_of {κ : Type} [DecidableEq κ] (K : DKind κ) {kx vx : E} {tg : Tg} {it : It'} {ifs : Es} {own : List (Str × Nat)} (hsl : ∀ i ∈ tg.slots, i ∈ own.map (·.2)) {σ : L2.St} {H : Hp} {Q : VK}
    (h : rdE G W (fun env M => (dI o it env M).bind fun t M => dcL K.ky K.ob t (tgSet tg) (fun env M => dC o ifs env M) (fun env M => dE o kx env M) (fun env M => dE o vx env M) (wipeE env (own.map (·.2))) fuelW 0 [] M) σ H Q) :
    tDcG (K.ho []) (rdI G W (dI o it)) (rdG G tg) (rdT G (fun _ _ _ _ => False) (dC o ifs)) (rdE G (fun _ _ _ _ => False) (dE o kx)) (rdE G (fun _ _ _ _ => False) (dE o vx)) (own.map (·.2)) σ H Q := by
  obtain ⟨ι0, γ, M0, env, rs, R0, p⟩ := h
  refine ⟨ι0, γ, M0, env, rs, R0, Post.bind _ p fun t M1 ι1 H1 e1 R1 p1 J hJ D hD => ?_⟩
  generalize hvs : own.map (·.2) = vs at p1 hsl
  have gr : Gr γ H1 (D :: γ) := fun g hg => (List.mem_cons.mp hg).elim (fun z => .inr (by rw [z]; exact hD)) .inl
  have outD : Out ι1 γ D := R1.fresh hD
  refine ⟨fun i k H => ∃ ι M acc m, Ext ι1 H1 ι H ∧ RM G ι (D :: γ) M H ∧ RS ι (D :: γ) H (wipeE env vs) (L2.wipe σ vs) ∧ H D = some (K.ho m) ∧ RKV K.f ι (D :: γ) H acc m ∧ (acc.map (·.1)).Nodup ∧
    Post G W ι1 γ H1 σ (PQ γ Q) (dcL K.ky K.ob t (tgSet tg) (fun env M => dC o ifs env M) (fun env M => dE o kx env M) (fun env M => dE o vx env M) (wipeE env vs) k i acc M), ⟨fuelW, ι1, M1, [], [], Ext.val hD, R1.apart hD, ((rs.mono e1).wipe vs).apart hD, upd_same, .nil, by simp, p1⟩, ?_⟩
  rintro i k H2 ⟨ι, M, acc, m, ex, R, rs2, hDl, racc, nd, ps⟩
  have nown : ∀ x, H2 D ≠ some (.own x) := fun x z => by rw [hDl] at z; exact K.nown m x (Option.some.inj z)
  have nD : D ∉ ι := (R.res D List.mem_cons_self).1
  cases k with
  | zero => exact ps.elim
  | succ k =>
    unfold dcL at ps
    split at ps
    · exact ps.elim
    · rename_i hat
      refine .inl ⟨hJ.stop ι (D :: γ) M H2 i ex gr R hat, ?_⟩
      refine ps (ι ++ [D]) H2 ⟨?_, fun q hq hn => ?_, ex.keep⟩ (R.adopt outD.2 nown (K.ro G (ι ++ [D]) γ H2 D acc m hDl racc.adopt)) _ (.ref (last_ix R.len))
      · obtain ⟨r, e⟩ := ex.pre
        exact ⟨r ++ [D], by rw [e, List.append_assoc]⟩
      · rcases List.mem_append.mp hq with hq | hq
        · exact ex.new q hq hn
        · rw [List.mem_singleton.mp hq]; exact hD
    · rename_i v hat
      obtain ⟨hgo, hyl⟩ := hJ.go ι (D :: γ) M H2 i v ex gr R hat
      split at ps
      · exact ps.elim
      · rename_i env1 hset
        refine .inr ⟨hgo, _, fun H' h => h, fun x H3 hy => ?_⟩
        obtain ⟨e3, R3, rv⟩ := hyl x H3 hy
        refine ⟨ι, D :: γ, M, v, wipeE env vs, env1, rs2.mono e3, R3, rv, hset, fun σ2 rs3 wp => ⟨(wp vs hsl).trans (wipe_wipe fun _ h => h), ι, D :: γ, M, env1, rs3, R3, ?_⟩⟩
        have hD3 : H3 D = some (K.ho m) := e3.keep D _ nD hDl
        refine post_calm _ ps fun b M2 ps2 ι4 H4 e4 R4 => ?_
        have hD4 : H4 D = some (K.ho m) := e4.keep D _ nD hD3
        cases b with
        | false =>
          rw [if_neg Bool.false_ne_true] at ps2
          dsimp only
          rw [if_neg Bool.false_ne_true]
          exact ⟨k, Nat.lt_succ_self k, ι4, M2, acc, m, (ex.trans e3).trans e4, R4, (rs2.mono e3).mono e4, hD4, (racc.mono e3).mono e4, nd, ps2⟩
        | true =>
          rw [if_pos rfl] at ps2
          dsimp only
          rw [if_pos rfl]
          refine ⟨ι4, D :: γ, M2, env1, rs3.mono e4, R4, post_calm _ ps2 fun w M3 ps3 ι5 H5 e5 R5 y ry => ?_⟩
          have nD4 : D ∉ ι4 := (R4.res D List.mem_cons_self).1
          have hD5 : H5 D = some (K.ho m) := e5.keep D _ nD4 hD4
          refine ⟨ι5, D :: γ, M3, env1, (rs3.mono e4).mono e5, R5, post_calm _ ps3 fun u M4 ps4 ι6 H6 e6 R6 z rz => ?_⟩
          have nD5 : D ∉ ι5 := (R5.res D List.mem_cons_self).1
          have hD6 : H6 D = some (K.ho m) := e6.keep D _ nD5 hD5
          split at ps4
          · rename_i cc hk
            split at ps4
            · rename_i hz
              have rm := ((((racc.mono e3).mono e4).mono e5).mono e6)
              refine ⟨_, K.put_ ι6 (D :: γ) H6 D acc m w y cc z hD6 (by rw [← racc.length]; exact hz) hk (ry.mono e6), ?_⟩
              refine ⟨k, Nat.lt_succ_self k, ι6, M4, put acc cc u, _, ?_, ?_, ?_, upd_same, ?_, put_nodup cc u nd, ps4⟩
              · have e := (((ex.trans e3).trans e4).trans e5).trans e6
                refine ⟨e.pre, e.new, fun a u ha hu => ?_⟩
                rw [upd_ne (ne_of_none hu hD)]
                exact e.keep a u ha hu
              · exact R6.stir List.mem_cons_self fun x z => by rw [hD6] at z; exact K.nown m x (Option.some.inj z)
              · exact ((((rs2.mono e3).mono e4).mono e5).mono e6).stir List.mem_cons_self
              · letI := K.dec
                exact (rm.put K.inj cc rz (nodupR K.inj rm nd)).stir List.mem_cons_self
            · exact ps4.elim
          · exact ps4.elim
abbrev noW : WX := fun _ _ _ _ => False
theorem dcm_t {tu : Bool} {kx vx : E} {tg : Tg} {it : It'} {ifs : Es} {sc : Scope} {own : List (Str × Nat)} {p : Pos} (hsl : ∀ i ∈ tg.slots, i ∈ own.map (·.2)) {σ : L2.St} {H : Hp} {Q : VK} (h : rdE G W (dE o (.dcm tu kx vx tg it ifs sc own p)) σ H Q) :
    tDcG (if tu then .dT [] else .dK []) (rdI G W (dI o it)) (rdG G tg) (rdT G noW (dC o ifs)) (rdE G noW (dE o kx)) (rdE G noW (dE o vx)) (own.map (·.2)) σ H Q := by
  cases tu with
  | true =>
    simp only [rdE, dE, if_true] at h
    exact tDc_of kindT hsl h
  | false =>
    simp only [rdE, dE, if_false, Bool.false_eq_true] at h
    exact tDc_of kindK hsl h
theorem dcm_empty {tu : Bool} (H : Hp) (h : Heap) (hb : sysModules < h.objs.size) : ObjOk X.prog X.w H (h.push { cls := .type "dict", data := .dict #[] }) h.objs.size (if tu then .dT [] else .dK []) := by
  cases tu with
  | true => exact dt_empty h hb
  | false => exact dk_empty h hb
theorem CxOk.dcm (c : CxOk T G o ct X W d) {tu : Bool} {kx vx : E} {tg : Tg} {it : It'} {ifs : Es} {sc : Scope} {own : List (Str × Nat)} {p : Pos} (h : wfE T ct (.dcm tu kx vx tg it ifs sc own p) = true) (hi : PI X (Tg.py tg) (It'.py it) (rdI G W (dI o it)))
    (ht : ∀ X', CxOk T G o (ct.blk sc) X' noW d → PTs X' (Es.py ifs) (rdT G noW (dC o ifs)))
    (hk : ∀ X', CxOk T G o (ct.blk sc) X' noW d → PE X' (E.py kx) (rdE G noW (dE o kx)))
    (hv : ∀ X', CxOk T G o (ct.blk sc) X' noW d → PE X' (E.py vx) (rdE G noW (dE o vx))) : PE X (E.py (.dcm tu kx vx tg it ifs sc own p)) (rdE G W (dE o (.dcm tu kx vx tg it ifs sc own p))) := by
  simp only [wfE, Bool.and_eq_true, decide_eq_true_eq] at h
  obtain ⟨⟨⟨⟨⟨⟨⟨⟨⟨_, _⟩, hblk⟩, htg⟩, hsl⟩, _⟩, _⟩, _⟩, _⟩, _⟩ := h
  refine PE.imp (pe_dcG (O := if tu then .dT [] else .dK []) (own := own) (fun H h hb => dcm_empty H h hb) c.units c.calm (by rw [c.N]; exact c.nd) hi (by rw [c.N, c.sc]; exact blkOk_by hblk) (fun s H C cl fp => sTg (c.blk sc s H C cl fp) tg htg)
    (fun s H C cl fp => ht _ (c.blk sc s H C cl fp)) (fun s H C cl fp => hk _ (c.blk sc s H C cl fp)) (fun s H C cl fp => hv _ (c.blk sc s H C cl fp)) (It'.folded it _)) fun σ H Q q => ?_
  exact dcm_t hsl q
end
end Dn
namespace Dn
open PySem PySem.Spec L2 PyProof.Rows
section
variable {T : Tb} {G : Glo} {o : Orc} {d : Nat}
def SE (T : Tb) (G : Glo) (o : Orc) (d : Nat) (e : E) : Prop := ∀ (ct : Ct) (X : Cx) (W : WX), wfE T ct e = true → CxOk T G o ct X W d → PE X (E.py e) (rdE G W (dE o e)) ∧ (tstOk e = true → PT X (E.py e) (rdT G W (fun env M => (dE o e env M).bind asB)))
def SEs (T : Tb) (G : Glo) (o : Orc) (d : Nat) (es : Es) : Prop := ∀ (ct : Ct) (X : Cx) (W : WX), wfEs T ct es = true → CxOk T G o ct X W d → PA X (Es.py es) (rdA G W (dEs o es)) ∧ PO X (Es.py es).head? (rdO G W (dO o es)) ∧
  (tstsOk es = true → es.len ≤ 1 → PTs X (Es.py es) (rdT G W (dC o es))) ∧ (es.len ≠ 0 → ∀ op p, PE X (.BoolOp op (Es.py es) p) (rdE G W (dB o op es))) ∧
  (es.len ≠ 0 → tstsOk es = true → ∀ op p, PW X (.BoolOp op (Es.py es) p) (rdT G W (fun env M => (dB o op es env M).bind asB))) ∧
  (∀ ks : List (List Nat × Nat × Pos), ks.length = es.len → ∀ pos, PPs X pos (keysPy ks) (Es.py es) (trsOf G W o ks es))
def SI (T : Tb) (G : Glo) (o : Orc) (d : Nat) (it : It') : Prop := ∀ (ct : Ct) (X : Cx) (W : WX) (tg : Tg), wfI T ct it = true → (it.isEnu = true → tg.isTp = true) → CxOk T G o ct X W d → PI X (Tg.py tg) (It'.py it) (rdI G W (dI o it))
theorem both {X : Cx} {W : WX} {ct : Ct} (c : CxOk T G o ct X W d) {e : E} (h : e.tst = true) (he : PE X (E.py e) (rdE G W (dE o e))) : PE X (E.py e) (rdE G W (dE o e)) ∧ (tstOk e = true → PT X (E.py e) (rdT G W (fun env M => (dE o e env M).bind asB))) :=
  ⟨he, fun _ => c.valT h he⟩
mutual
theorem sE : ∀ e : E, SE T G o d e
  | .var i x p => fun ct X W h c => both c rfl (c.var h)
  | .non k p => fun ct X W h c => both c rfl (PE.imp pe_non fun σ H Q ⟨ι, γ, M, env, rs, R, ps⟩ => Post.here R ps _ .non)
  | .bl b k p => fun ct X W h c => both c rfl (PE.imp pe_bl fun σ H Q ⟨ι, γ, M, env, rs, R, ps⟩ => Post.here R ps _ (.bl b))
  | .int i k p => fun ct X W h c => both c rfl (PE.imp pe_int fun σ H Q ⟨ι, γ, M, env, rs, R, ps⟩ => Post.here R ps _ (.int i))
  | .str s k p => fun ct X W h c => both c rfl (PE.imp pe_str fun σ H Q ⟨ι, γ, M, env, rs, R, ps⟩ => Post.here R ps _ (.str s))
  | .glb v x p => fun ct X W h c => both c rfl (c.glb h)
  | .bin m op a b p => fun ct X W h c => by
    have h' := h
    simp only [wfE, Bool.and_eq_true] at h'
    exact both c rfl (c.bin (sE a ct X W h'.1 c).1 (sE b ct X W h'.2 c).1)
  | .neg a p => fun ct X W h c => both c rfl (c.neg (sE a ct X W (by simpa only [wfE] using h) c).1)
  | .not a p => fun ct X W h c => by
    have h' : wfE T ct a = true := by simpa only [wfE] using h
    exact ⟨c.not (sE a ct X W h' c).1, fun ht => c.notT ((sE a ct X W h' c).2 (by simpa only [tstOk] using ht))⟩
  | .bop op es p => fun ct X W h c => by
    have h' := h
    simp only [wfE, Bool.and_eq_true, decide_eq_true_eq] at h'
    obtain ⟨_, _, _, h4, h5, _⟩ := sEs es ct X W h'.1 c
    refine ⟨?_, fun ht => ?_⟩
    · exact PE.imp (h4 h'.2 op p) fun σ H Q q => by simpa only [rdE, dE] using q
    · exact PT.imp (h5 h'.2 (by simpa only [tstOk] using ht) op p).pt fun σ H Q q => by simpa only [rdT, dE] using q
  | .cmp op a b p => fun ct X W h c => by
    have h' := h
    simp only [wfE, Bool.and_eq_true] at h'
    exact ⟨c.cmp (sE a ct X W h'.1 c).1 (sE b ct X W h'.2 c).1, fun _ => c.cmpT (sE a ct X W h'.1 c).1 (sE b ct X W h'.2 c).1⟩
  | .chn o1 o2 a b e p => fun ct X W h c => by
    have h' := h
    simp only [wfE, Bool.and_eq_true] at h'
    exact ⟨c.chn (sE a ct X W h'.1.1 c).1 (sE b ct X W h'.1.2 c).1 (sE e ct X W h'.2 c).1, fun _ => c.chnT (sE a ct X W h'.1.1 c).1 (sE b ct X W h'.1.2 c).1 (sE e ct X W h'.2 c).1⟩
  | .inG ng a vs x q p => fun ct X W h c => by
    have h' := h
    simp only [wfE, Bool.and_eq_true] at h'
    have z := c.inG h (sE a ct X W h'.1.1.1 c).1
    exact ⟨z.1, fun _ => z.2⟩
  | .isN ng a k q p => fun ct X W h c => by
    have z := c.isN (ng := ng) (k := k) (q := q) (p := p) (sE a ct X W (by simpa only [wfE] using h) c).1
    exact ⟨z.1, fun _ => z.2⟩
  | .ite e a b p => fun ct X W h c => by
    have h' := h
    simp only [wfE, Bool.and_eq_true] at h'
    exact ⟨c.ite ((sE e ct X W h'.1.1.1 c).2 h'.1.1.2) (sE a ct X W h'.1.2 c).1 (sE b ct X W h'.2 c).1, fun ht => by simp [tstOk] at ht⟩
  | .tup es k p => fun ct X W h c => both c rfl (c.tup (sEs es ct X W (by simpa only [wfE] using h) c).1)
  | .lst m es p => fun ct X W h c => both c rfl (c.lst (sEs es ct X W (by simpa only [wfE] using h) c).1)
  | .dnw t p => fun ct X W h c => both c rfl c.dnw
  | .ix a b p => fun ct X W h c => by
    have h' := h
    simp only [wfE, Bool.and_eq_true] at h'
    exact both c rfl (c.ix (sE a ct X W h'.1 c).1 (sE b ct X W h'.2 c).1)
  | .sl m a lo hi q p => fun ct X W h c => by
    have h' := h
    simp only [wfE, Bool.and_eq_true] at h'
    exact both c rfl (c.sl (sE a ct X W h'.1.1 c).1 (sEs lo ct X W h'.1.2 c).2.1 (sEs hi ct X W h'.2 c).2.1)
  | .fld a f x p => fun ct X W h c => by
    have h' := h
    simp only [wfE, Bool.and_eq_true] at h'
    exact both c rfl (c.fld h (sE a ct X W h'.1.1.1 c).1)
  | .call f x q es p => fun ct X W h c => by
    have h' := h
    simp only [wfE, Bool.and_eq_true] at h'
    exact both c rfl (c.call h (sEs es ct X W h'.1.1.1.1.1 c).1)
  | .make k f x q es p => fun ct X W h c => by
    have h' := h
    simp only [wfE, Bool.and_eq_true] at h'
    exact both c rfl (c.make h (sEs es ct X W h'.1.1.1.1.1.1 c).1)
  | .meth k f a x q es p => fun ct X W h c => by
    have h' := h
    simp only [wfE, Bool.and_eq_true] at h'
    exact both c rfl (c.meth h (sE a ct X W h'.1.1.1.1.1.1.1 c).1 (sEs es ct X W h'.1.1.1.1.1.2 c).1)
  | .blt b m q a p => fun ct X W h c => by
    have h' := h
    simp only [wfE, Bool.and_eq_true] at h'
    exact both c rfl (c.blt h (sE a ct X W h'.1.1 c).1)
  | .isi a t q r p => fun ct X W h c => by
    have h' := h
    simp only [wfE, Bool.and_eq_true] at h'
    exact both c rfl (c.isi h (sE a ct X W h'.1.1.1.1 c).1)
  | .app a e q p => fun ct X W h c => by
    have h' := h
    simp only [wfE, Bool.and_eq_true] at h'
    exact both c rfl (c.app h (sE a ct X W h'.1.1.1 c).1 (sE e ct X W h'.1.2 c).1)
  | .pop a q p => fun ct X W h c => by
    have h' := h
    simp only [wfE, Bool.and_eq_true] at h'
    exact both c rfl (c.pop h (sE a ct X W h'.1.1 c).1)
  | .ext a e q p => fun ct X W h c => by
    have h' := h
    simp only [wfE, Bool.and_eq_true] at h'
    exact both c rfl (c.ext h (sE a ct X W h'.1.1.1 c).1 (sE e ct X W h'.1.2 c).1)
  | .isi2 a t u q r1 r2 tp k p => fun ct X W h c => by
    have h' := h
    simp only [wfE, Bool.and_eq_true] at h'
    exact both c rfl (c.isi2 h (sE a ct X W h'.1.1.1.1.1.1 c).1)
  | .dsp ks es p => fun ct X W h c => by
    have h' := h
    simp only [wfE, Bool.and_eq_true, decide_eq_true_eq] at h'
    exact both c rfl (c.dsp h fun pos => (sEs es ct X W h'.1.1 c).2.2.2.2.2 ks h'.1.2 pos)
  | .dcm tu kx vx tg it ifs sc own p => fun ct X W h c => by
    have h' := h
    simp only [wfE, Bool.and_eq_true, decide_eq_true_eq] at h'
    obtain ⟨⟨⟨⟨⟨⟨⟨⟨⟨h1, h2⟩, _⟩, _⟩, _⟩, h6⟩, h7⟩, h8⟩, h9⟩, h10⟩ := h'
    refine both c rfl (c.dcm h (sI it ct X W tg h1 (fun z => ?_) c) (fun X' c' => (sEs ifs _ X' _ h6 c').2.2.1 h7 h8) (fun X' c' => (sE kx _ X' _ h9 c').1) (fun X' c' => (sE vx _ X' _ h10 c').1))
    rw [z] at h2
    simpa using h2
  | .comp m elt tg it ifs sc own p => fun ct X W h c => by
    have h' := h
    simp only [wfE, Bool.and_eq_true, decide_eq_true_eq] at h'
    obtain ⟨⟨⟨⟨⟨⟨⟨⟨⟨h1, _⟩, h2⟩, _⟩, _⟩, _⟩, h6⟩, h7⟩, h8⟩, h9⟩ := h'
    refine both c rfl (c.comp h (sI it ct X W tg h1 (fun z => ?_) c) (fun X' c' => (sEs ifs _ X' _ h6 c').2.2.1 h7 h8) (fun X' c' => (sE elt _ X' _ h9 c').1))
    rw [z] at h2
    simpa using h2
theorem sEs : ∀ es : Es, SEs T G o d es
  | .nil => fun ct X W h c => ⟨c.nil, c.oNil, fun _ _ => c.cNil, fun z => absurd rfl z, fun z => absurd rfl z, fun ks hl pos => by
    cases ks with
    | nil => exact pps_nil
    | cons _ _ => simp [Es.len] at hl⟩
  | .cons e es => fun ct X W h c => by
    have h' := h
    simp only [wfEs, Bool.and_eq_true] at h'
    have he := sE e ct X W h'.1 c
    have hs := sEs es ct X W h'.2 c
    refine ⟨c.cons he.1 hs.1, c.oCons he.1, fun ht hl => ?_, fun _ op p => ?_, fun _ ht op p => ?_, fun ks hl pos => ?_⟩
    · simp only [tstsOk, Bool.and_eq_true] at ht
      cases es with
      | nil => exact c.cOne (he.2 ht.1)
      | cons e' es => simp only [Es.len] at hl; omega
    · cases es with
      | nil => exact c.bOne he.1
      | cons e' es => exact c.bMore he.1 (hs.2.2.2.1 (by simp [Es.len]) op p)
    · simp only [tstsOk, Bool.and_eq_true] at ht
      cases es with
      | nil => exact c.wOne (he.2 ht.1)
      | cons e' es => exact c.wMore (he.2 ht.1) (hs.2.2.2.2.1 (by simp [Es.len]) (by simpa only [tstsOk, Bool.and_eq_true] using ht.2) op p)
    · cases ks with
      | nil => simp [Es.len] at hl
      | cons k ks => exact pps_cons pe_str he.1 (hs.2.2.2.2.2 ks (by simpa [Es.len] using hl) pos)
theorem sI : ∀ it : It', SI T G o d it
  | .seq e => fun ct X W tg h _ c => c.seq (sE e ct X W (by simpa only [wfI] using h) c).1
  | .rng es q p => fun ct X W tg h _ c => by
    have h' := h
    simp only [wfI, Bool.and_eq_true] at h'
    exact c.rng h (sEs es ct X W h'.1.1.1 c).1
  | .enu e q p => fun ct X W tg h ht c => by
    have h' := h
    simp only [wfI, Bool.and_eq_true] at h'
    cases tg with
    | nm i x p => exact absurd (ht rfl) (by simp [Tg.isTp])
    | tp ts k p => exact c.enu h (sE e ct X W h'.1.1 c).1
end
end
end Dn
namespace Dn
open PySem PySem.Spec L2 PyProof.Rows
/-! ### the text of statements -/
mutual
inductive HE where
  | non (k : Nat) (p : Pos) | bl (b : Bool) (k : Nat) (p : Pos) | int (i : Int) (k : Nat) (p : Pos) | str (s : List Nat) (k : Nat) (p : Pos)
  | err (i : Nat) (x : Str) (q : Pos) (f : Nat) (n : Str) (p : Pos) | tup (es : HEs) (k : Nat) (p : Pos)
inductive HEs where
  | nil | cons (e : HE) (es : HEs)
end
inductive HS where
  | ret (e : HE) (p : Pos) | set (i : Nat) (x : Str) (q : Pos) (e : HE) (p : Pos)
/-- except x as n: cs: which classes it takes -/
structure Hd where
  x : Str
  np : Pos
  n : Option (Nat × Str)
  cs : List (Nat × Bool)
  su : HS
  p : Pos
/-- a target: a name or a field -/
inductive At where
  | nm (i : Nat) (x : Str) (p : Pos) | at_ (a : E) (f : Nat) (x : Str) (p : Pos)
def At.py : At → Expr
  | .nm _ x p => .Name x p
  | .at_ a _ x p => .Attribute a.py x p
mutual
inductive S where
  | ats (ts : List At) (k : Nat) (q : Pos) (e : E) (p : Pos)
  | delf (a lo : E) (p2 q p : Pos)
  | set (i : Nat) (x : Str) (q : Pos) (e : E) (p : Pos)
  | unp (ts : Tgs) (k : Nat) (q : Pos) (e : E) (p : Pos)
  | par (i j : Nat) (x y : Str) (px py pt : Pos) (kt : Nat) (a b : E) (k2 : Nat) (p2 p : Pos)
  | par3 (i j l : Nat) (x y z : Str) (px py pz pt : Pos) (kt : Nat) (a b c : E) (k2 : Nat) (p2 p : Pos)
  | sfld (a : E) (f : Nat) (x : Str) (q : Pos) (e : E) (p : Pos)
  | ssub (a i : E) (q : Pos) (e : E) (p : Pos)
  | aug (i : Nat) (x : Str) (q : Pos) (sub : Bool) (e : E) (p : Pos)
  | afld (a : E) (f : Nat) (x : Str) (q : Pos) (sub : Bool) (e : E) (p : Pos)
  | expr (e : E) (p : Pos)
  | ret (e : E) (p : Pos)
  | retN (p : Pos)
  | pass (p : Pos)
  | brk (p : Pos)
  | cont (p : Pos)
  | ife (c : E) (a b : Ss) (p : Pos)
  | whl (c : E) (b : Ss) (p : Pos)
  | for_ (tg : Tg) (it : It') (b : Ss) (p : Pos)
  | rse (c : Nat) (f : Nat) (x : Str) (q : Pos) (e : E) (p2 p : Pos)
  | try_ (b : Ss) (h : Hd) (hs : List Hd) (p : Pos)
inductive Ss where
  | nil | cons (s : S) (ss : Ss)
end
mutual
def HE.py : HE → Expr
  | .non k p => .Constant .none k p
  | .bl b k p => .Constant (.bool b) k p
  | .int i k p => .Constant (.int i) k p
  | .str s k p => .Constant (.str ⟨s.toArray⟩) k p
  | .err _ x q _ n p => .Attribute (.Name x q) n p
  | .tup es k p => .Tuple (HEs.py es) k p
def HEs.py : HEs → List Expr
  | .nil => []
  | .cons e es => HE.py e :: HEs.py es
end
def HS.py : HS → Stmt
  | .ret e p => .Return (some e.py) p
  | .set _ x q e p => .Assign [.Name x q] e.py p
def Hd.py (h : Hd) : ExceptHandler := .ExceptHandler (some (.Name h.x h.np)) (h.n.map (·.2)) [h.su.py] h.p
def augOp (sub : Bool) : Operator := if sub then .Sub else .Add
mutual
def S.py : S → Stmt
  | .ats ts k q e p => .Assign [.Tuple (ts.map At.py) k q] e.py p
  | .delf a lo p2 q p => .Delete [.Subscript a.py (.Slice (some lo.py) none none p2) q] p
  | .set _ x q e p => .Assign [.Name x q] e.py p
  | .unp ts k q e p => .Assign [.Tuple ts.py k q] e.py p
  | .par _ _ x y px py pt kt a b k2 p2 p => .Assign [.Tuple [.Name x px, .Name y py] kt pt] (.Tuple [a.py, b.py] k2 p2) p
  | .par3 _ _ _ x y z px py pz pt kt a b c k2 p2 p => .Assign [.Tuple [.Name x px, .Name y py, .Name z pz] kt pt] (.Tuple [a.py, b.py, c.py] k2 p2) p
  | .sfld a _ x q e p => .Assign [.Attribute a.py x q] e.py p
  | .ssub a i q e p => .Assign [.Subscript a.py i.py q] e.py p
  | .aug _ x q sub e p => .AugAssign (.Name x q) (augOp sub) e.py p
  | .afld a _ x q sub e p => .AugAssign (.Attribute a.py x q) (augOp sub) e.py p
  | .expr e p => .Expr e.py p
  | .ret e p => .Return (some e.py) p
  | .retN p => .Return none p
  | .pass p => .Pass p
  | .brk p => .Break p
  | .cont p => .Continue p
  | .ife c a b p => .If c.py (Ss.py a) (Ss.py b) p
  | .whl c b p => .While c.py (Ss.py b) [] p
  | .for_ tg it b p => .For tg.py it.py (Ss.py b) [] p
  | .rse _ _ x q e p2 p => .Raise (some (.Call (.Name x q) [e.py] [] p2)) none p
  | .try_ b h hs p => .Try (Ss.py b) (h.py :: hs.map Hd.py) [] [] p
def Ss.py : Ss → List Stmt
  | .nil => []
  | .cons s ss => S.py s :: Ss.py ss
end

/-! ### what it does -/
inductive Rs where
  | nx (env : Env) (M : Mem) | rt (v : Va) (M : Mem) | bk (env : Env) (M : Mem) | ct (env : Env) (M : Mem) | exc (c : Nat) (v : Va) (env : Env) (M : Mem) | bad
def Res.toS {α : Type} (env : Env) (r : Res α) (k : α → Mem → Rs) : Rs := match r with
  | .ok a M => k a M
  | .exc c v M => .exc c v env M
  | .bad => .bad
@[simp] theorem Res.toS_ok {α : Type} (env : Env) (a : α) (M : Mem) (k : α → Mem → Rs) : (Res.ok a M).toS env k = k a M := rfl
@[simp] theorem Res.toS_exc {α : Type} (env : Env) (c : Nat) (v : Va) (M : Mem) (k : α → Mem → Rs) : (Res.exc c v M : Res α).toS env k = .exc c v env M := rfl
@[simp] theorem Res.toS_bad {α : Type} (env : Env) (k : α → Mem → Rs) : (Res.bad : Res α).toS env k = .bad := rfl
def setFld (M : Mem) (w : Va) (f : Nat) (v : Va) : Option Mem := match w with
  | .ref n => match M[n]? with
    | some (.ins c fs) => if fs.length < 1000 then some (M.set n (.ins c (put fs f v))) else none
    | _ => none
  | _ => none
def setAt (M : Mem) (w i v : Va) : Option Mem := match w with
  | .ref n => match M[n]? with
    | some (.lst xs) => match i with
      | .int k => (ixN xs.length k).map fun j => M.set n (.lst (xs.set j v))
      | _ => none
    | _ => dput M n i v
  | _ => none
def clsOf (M : Mem) : Va → Option Nat
  | .ref n => match M[n]? with
    | some (.ins c _) => some c
    | _ => none
  | _ => none
def augV (sub : Bool) (v w : Va) : Option Va := match v, w with
  | .int i, .int j => some (.int (if sub then i - j else i + j))
  | _, _ => none
def Rs.ofO (env : Env) (o : Option Mem) : Rs := match o with
  | some M => .nx env M
  | none => .bad
def whileL (cond : Env → Mem → Res Bool) (body : Env → Mem → Rs) : Nat → Env → Mem → Rs
  | 0, _, _ => .bad
  | k + 1, env, M => (cond env M).toS env fun b M => if b then match body env M with
      | .nx env' M' => whileL cond body k env' M'
      | .ct env' M' => whileL cond body k env' M'
      | .bk env' M' => .nx env' M'
      | .rt v M' => .rt v M'
      | .exc c v env' M' => .exc c v env' M'
      | .bad => .bad
    else .nx env M
def forL (t : Itv) (set : Va → Env → Option Env) (body : Env → Mem → Rs) : Nat → Nat → Env → Mem → Rs
  | 0, _, _, _ => .bad
  | k + 1, i, env, M => match t.at M i with
    | none => .bad
    | some none => .nx env M
    | some (some v) => match set v env with
      | none => .bad
      | some env1 => match body env1 M with
        | .nx env' M' => forL t set body k (i + 1) env' M'
        | .ct env' M' => forL t set body k (i + 1) env' M'
        | .bk env' M' => .nx env' M'
        | .rt v M' => .rt v M'
        | .exc c v env' M' => .exc c v env' M'
        | .bad => .bad
mutual
/-- in a suite: c, v: the exception -/
def dHE (v : Va) : HE → Va
  | .non _ _ => .non
  | .bl b _ _ => .bl b
  | .int i _ _ => .int i
  | .str s _ _ => .str s
  | .err _ _ _ _ _ _ => v
  | .tup es _ _ => .tup (dHEs v es)
def dHEs (v : Va) : HEs → List Va
  | .nil => []
  | .cons e es => dHE v e :: dHEs v es
end
def dHS (v : Va) (env : Env) (M : Mem) : HS → Rs
  | .ret e _ => .rt (dHE v e) M
  | .set i _ _ e _ => .nx (env.set i (some (dHE v e))) M
def hideE (n : Option (Nat × Str)) (env : Env) : Env := match n with
  | some (i, _) => env.set i none
  | none => env
def slotOk (n : Option (Nat × Str)) (env : Env) : Bool := match n with
  | some (i, _) => decide (i < env.length)
  | none => true
def Rs.hide (n : Option (Nat × Str)) : Rs → Rs
  | .nx env M => .nx (hideE n env) M
  | r => r
def dHds (c : Nat) (v : Va) (env : Env) (M : Mem) : List Hd → Rs
  | [] => .exc c v env M
  | h :: hs => match h.cs.lookup c with
    | some true => if slotOk h.n env then (dHS v (hideE h.n env) M h.su).hide h.n else .bad
    | some false => dHds c v env M hs
    | none => .bad
def setAts (o : Orc) : List At → List Va → Env → Mem → Option (Env × Mem)
  | [], [], env, M => some (env, M)
  | .nm i _ _ :: ts, v :: vs, env, M => setAts o ts vs (env.set i (some v)) M
  | .at_ a f _ _ :: ts, v :: vs, env, M => match dE o a env M with
    | .ok w M1 => match setFld M1 w f v with
      | some M2 => setAts o ts vs env M2
      | none => none
    | _ => none
  | _, _, _, _ => none
def delFrom (M : Mem) (v w : Va) : Option Mem := match v, w with
  | .ref n, .int i => match M[n]? with
    | some (.lst xs) => if 0 ≤ i ∧ i.toNat ≤ xs.length then some (M.set n (.lst (xs.take i.toNat))) else none
    | _ => none
  | _, _ => none
def Rs.ofP (r : Option (Env × Mem)) : Rs := match r with
  | some (env, M) => .nx env M
  | none => .bad
mutual
def dS (o : Orc) : S → Env → Mem → Rs
  | .ats ts _ _ e _, env, M => (dE o e env M).toS env fun v M => match v with
    | .tup vs => Rs.ofP (setAts o ts vs env M)
    | _ => .bad
  | .delf a lo _ _ _, env, M => (dE o a env M).toS env fun v M => (dE o lo env M).toS env fun w M => Rs.ofO env (delFrom M v w)
  | .set i _ _ e _, env, M => (dE o e env M).toS env fun v M => .nx (env.set i (some v)) M
  | .unp ts k q e _, env, M => (dE o e env M).toS env fun v M => match tgSet (.tp ts k q) v env with
    | some env' => .nx env' M
    | none => .bad
  | .par i j _ _ _ _ _ _ a b _ _ _, env, M => (dEs o (.cons a (.cons b .nil)) env M).toS env fun vs M => match vs with
    | [v, w] => .nx ((env.set i (some v)).set j (some w)) M
    | _ => .bad
  | .par3 i j l _ _ _ _ _ _ _ _ a b c _ _ _, env, M => (dEs o (.cons a (.cons b (.cons c .nil))) env M).toS env fun vs M => match vs with
    | [v, w, u] => .nx (((env.set i (some v)).set j (some w)).set l (some u)) M
    | _ => .bad
  | .sfld a f _ _ e _, env, M => (dE o e env M).toS env fun v M => (dE o a env M).toS env fun w M => Rs.ofO env (setFld M w f v)
  | .ssub a i _ e _, env, M => (dE o e env M).toS env fun v M => (dE o a env M).toS env fun w M => (dE o i env M).toS env fun j M => Rs.ofO env (setAt M w j v)
  | .aug i _ _ sub e _, env, M => match env[i]? with
    | some (some x) => (dE o e env M).toS env fun v M => match augV sub x v with
      | some y => .nx (env.set i (some y)) M
      | none => .bad
    | _ => .bad
  | .afld a f _ _ sub e _, env, M => (dE o a env M).toS env fun w M => match fldOf M w f with
    | some x => (dE o e env M).toS env fun v M1 => match augV sub x v with
      | some y => if clsOf M1 w = clsOf M w then Rs.ofO env (setFld M1 w f y) else .bad
      | none => .bad
    | none => .bad
  | .expr e _, env, M => (dE o e env M).toS env fun _ M => .nx env M
  | .ret e _, env, M => (dE o e env M).toS env fun v M => .rt v M
  | .retN _, env, M => .rt .non M
  | .pass _, env, M => .nx env M
  | .brk _, env, M => .bk env M
  | .cont _, env, M => .ct env M
  | .ife c a b _, env, M => ((dE o c env M).bind asB).toS env fun k M => if k then dSs o a env M else dSs o b env M
  | .whl c b _, env, M => whileL (fun env M => (dE o c env M).bind asB) (fun env M => dSs o b env M) fuelW env M
  | .for_ tg it b _, env, M => (dI o it env M).toS env fun t M => forL t (tgSet tg) (fun env M => dSs o b env M) fuelW 0 env M
  | .rse c _ _ _ e _ _, env, M => (dE o e env M).toS env fun v M => .exc c v env M
  | .try_ b h hs _, env, M => match dSs o b env M with
    | .exc c v env' M' => dHds c v env' M' (h :: hs)
    | r => r
def dSs (o : Orc) : Ss → Env → Mem → Rs
  | .nil, env, M => .nx env M
  | .cons s ss, env, M => match dS o s env M with
    | .nx env' M' => dSs o ss env' M'
    | r => r
end

/-! ### what is wanted of a result -/
def PostS (G : Glo) (W : WX) (ι γ : List Addr) (H : Hp) (D : Ends) : Rs → Prop
  | .nx env M' => ∀ ι' H' σ', Ext ι H ι' H' → RM G ι' γ M' H' → RS ι' γ H' env σ' → D.nx σ' H'
  | .bk env M' => ∀ ι' H' σ', Ext ι H ι' H' → RM G ι' γ M' H' → RS ι' γ H' env σ' → D.bk σ' H'
  | .ct env M' => ∀ ι' H' σ', Ext ι H ι' H' → RM G ι' γ M' H' → RS ι' γ H' env σ' → D.ct σ' H'
  | .rt v M' => ∀ ι' H' x, Ext ι H ι' H' → RM G ι' γ M' H' → RV ι' γ H' v x → D.rt x H'
  | .exc c v env M' => ∀ ι' H' σ' d x, Ext ι H ι' H' → RM G ι' γ M' H' → RS ι' γ H' env σ' → RV ι' γ H' v x → H' d = some (.xd [(G.fld (G.xfl c), x)]) → W (.ref (G.cls c)) (some d) σ' H'
  | .bad => False
def rdS (G : Glo) (W : WX) (f : Env → Mem → Rs) : TS := fun D σ H => ∃ ι γ M env, RS ι γ H env σ ∧ RM G ι γ M H ∧ PostS G W ι γ H D (f env M)
section
variable {G : Glo} {W : WX} {ι γ ι1 : List Addr} {H H1 : Hp} {σ : L2.St} {α : Type} {D D' : Ends}
theorem PostS.shift (e : Ext ι H ι1 H1) : ∀ {r : Rs}, PostS G W ι γ H D r → PostS G W ι1 γ H1 D r
  | .nx env M', h => fun ι' H' σ' e' => h ι' H' σ' (e.trans e')
  | .bk env M', h => fun ι' H' σ' e' => h ι' H' σ' (e.trans e')
  | .ct env M', h => fun ι' H' σ' e' => h ι' H' σ' (e.trans e')
  | .rt v M', h => fun ι' H' x e' => h ι' H' x (e.trans e')
  | .exc c v env M', h => fun ι' H' σ' d x e' => h ι' H' σ' d x (e.trans e')
  | .bad, h => h
theorem PostS.bind {env : Env} (P : α → List Addr → Hp → Prop) (rs : RS ι γ H env σ) : ∀ {r : Res α} {k : α → Mem → Rs}, PostS G W ι γ H D (r.toS env k) →
    (∀ a M1 ι1 H1, Ext ι H ι1 H1 → RM G ι1 γ M1 H1 → PostS G W ι1 γ H1 D (k a M1) → P a ι1 H1) → Post G W ι γ H σ P r
  | .ok a M1, k, h, hk => fun ι1 H1 e R => hk a M1 ι1 H1 e R (PostS.shift e h)
  | .exc c v M', k, h, hk => fun ι' H' d x e R rv hd => h ι' H' σ d x e R (rs.mono e) rv hd
  | .bad, k, h, hk => h.elim
end
theorem PS.imp {X : Cx} {e : Stmt} {t t' : TS} (h : PS X e t) (f : ∀ D σ H, t' D σ H → t D σ H) : PS X e t' := ⟨fun pins s σ H D I q => h.run pins s σ H D I (f D σ H q)⟩
theorem PSs.imp {X : Cx} {e : List Stmt} {t t' : TS} (h : PSs X e t) (f : ∀ D σ H, t' D σ H → t D σ H) : PSs X e t' := ⟨fun pins s σ H D I q => h.run pins s σ H D I (f D σ H q)⟩
end Dn
namespace Dn
open PySem PySem.Spec L2 PyProof.Rows
/-! ### several except clauses, each with or without a name -/
abbrev TSu := Addr → Value → Option Addr → TS
def endsN (n : Option Nat) (D : Ends) : Ends := match n with
  | some i => { nx := fun σ' H' => D.nx (σ'.set i none) H', rt := D.rt, bk := fun σ' H' => D.bk (σ'.set i none) H', ct := fun σ' H' => D.ct (σ'.set i none) H' }
  | none => D
def slotN (n : Option Nat) (a : Addr) (σ : L2.St) : L2.St := match n with
  | some i => σ.set i (some (.ref a))
  | none => σ
def wMix (K : PySem.W.Frag) (Wout : WX) (D : Ends) : List (Value × Option Nat × TSu) → WX
  | [] => Wout
  | (c, n, ts) :: r => fun cls d σ H => ∃ b, PySem.W.exmOne K cls c = some b ∧ (b = true → ∀ a, H a = none → ts a cls d (endsN n D) (slotN n a σ) H) ∧ (b = false → wMix K Wout D r cls d σ H)
inductive HdMix (X : Cx) : List ExceptHandler → List (Value × Option Nat × TSu) → Prop
  | nil : HdMix X [] []
  | plain {x : Str} {c : Value} {ts : TSu} {b₀ : Stmt} {suite : List Stmt} {np pos' : Pos} {hds : List ExceptHandler} {l : List (Value × Option Nat × TSu)} (hc : Names X x c)
      (hsu : ∀ (a : Addr) (oe : Obj) (cls : Value) (d : Option Addr) (pn : List (Addr × Obj)), Zc cls d oe → (∃ vs, oe.data = .fields vs) → PSs (X.suite a ((a, oe) :: pn)) (b₀ :: suite) (ts a cls d)) (r : HdMix X hds l) :
      HdMix X (.ExceptHandler (some (.Name x np)) none (b₀ :: suite) pos' :: hds) ((c, none, ts) :: l)
  | named {x n : Str} {i : Nat} {c : Value} {ts : TSu} {b₀ : Stmt} {suite : List Stmt} {np pos' : Pos} {hds : List ExceptHandler} {l : List (Value × Option Nat × TSu)} (hc : Names X x c) (hi : X.N[i]? = some n) (hln : X.env.kindOf n = some .local)
      (hsu : ∀ (a : Addr) (oe : Obj) (cls : Value) (d : Option Addr) (pn : List (Addr × Obj)), Zc cls d oe → (∃ vs, oe.data = .fields vs) → PSs (X.suite a ((a, oe) :: pn)) (b₀ :: suite) (ts a cls d)) (r : HdMix X hds l) :
      HdMix X (.ExceptHandler (some (.Name x np)) (some n) (b₀ :: suite) pos' :: hds) ((c, some i, ts) :: l)
section
variable {X : Cx} {body : List Stmt} {h₀ : ExceptHandler} {hds : List ExceptHandler} {l : List (Value × Option Nat × TSu)} {pos : Pos} {tb : WX → TS} {Wout : WX}
theorem ps_try_mix (hs : X.stack = X.env :: X.outer) (hf : X.env.frame = some X.env.locals) (hN : X.N.Nodup) (tk : Takes X Wout)
    (hb : ∀ (W : WX) (pn : List (Addr × Obj)) (xe : Value → Shared → Prop), Takes (X.tr pn xe) W → PassesOwn (model X.prog X.w) X.A X.env xe → PSs (X.tr pn xe) body (tb W))
    (hh : HdMix X (h₀ :: hds) l) : PS X (.Try body (h₀ :: hds) [] [] pos) (fun D σ H => tb (wMix X.K Wout D l) D σ H) := by
  refine ⟨fun pins s σ H D I h => ?_⟩
  have ok := I.ok
  have hfr : X.A.frames = some (X.env :: X.outer) := by rw [ok.frames, hs]
  refine wpAny_Try_except ?_
  refine wpAny_mono ((hb (wMix X.K Wout D l) (X.pn ++ pins) (fun e s₁ => wpAny (model X.prog X.w) X.A (noteFrame e X.env) (fun _ s₂ => wpAny (model X.prog X.w) X.A (setFlight e none) (fun _ s₃ =>
    wpAny (model X.prog X.w) X.A (handleBy e X.env (h₀ :: hds)) (SP X pins D) X.xe s₃) X.xe s₂) X.xe s₁) (fun u s' xx => ?_) PassesOwn.looking).run [] s σ H D (I.toTry _) h) (fun f s1 hsp => ?_) (fun e s1 he => he)
  · -- the catch
    obtain ⟨a, B, sI, pins', σ', H', cls, d, rfl, J', nb, up, sky, na, os, ag, w⟩ := xx
    have J : Inv X pins σ' H' sI := J'.ofTry ok
    have sky' : Sky B (X.env :: X.outer) a (Zc cls d) X.env.locals s'.heap := by rw [← hs]; exact sky
    show wpAny (model X.prog X.w) X.A (noteFrame (.ref a) X.env) _ _ _
    refine Sky.land Zc.steady hfr hf sky' fun h3 fl3 up3 => ?_
    have J3 : Inv X pins σ' H' { s' with heap := h3 } := J.landed nb fl3.1 (up.trans up3) os ag
    obtain ⟨oe3, vs3, he3, hz3, hd3⟩ := fl3.there
    have notFr : ∀ {h : Heap} {o : Obj} {vs : Array Value}, h.FunFrames B (X.env :: X.outer) → h.get? a = some o → o.data = .fields vs → a ∉ frs (X.env :: X.outer) := fun {h o vs} ff e dd hm => by
      obtain ⟨_, o', e', hnf⟩ := ff.mem hm
      rw [e] at e'; cases e'
      exact hnf _ dd
    have nfr := notFr fl3.2.2.1 he3 hd3
    have nL : a ≠ X.env.locals := fun z => nfr (List.mem_filterMap.mpr ⟨X.env, List.mem_cons_self, by rw [hf, z]⟩)
    have nF : a ∉ X.fs := fun hm => by
      obtain ⟨e, he, q⟩ := List.mem_filterMap.mp hm
      exact nfr (List.mem_filterMap.mpr ⟨e, List.mem_cons_of_mem _ he, q⟩)
    have S3 := J3.suite he3 hd3 na nL nF
    have go : ∀ {hds' : List ExceptHandler} {l' : List (Value × Option Nat × TSu)}, HdMix X hds' l' → wMix X.K Wout D l' cls d σ' H' →
        wpAny (model X.prog X.w) X.A (handleBy (.ref a) X.env hds') (SP X pins D) X.xe { s' with heap := h3 } := by
      intro hds' l' hk
      induction hk with
      | nil =>
        intro w
        refine wpAny_handleBy_nil ?_
        obtain ⟨k1, k2, k3, oe, vs, T, oT, ts', he, hz, hd, h1, hr⟩ := id fl3
        unfold PySem.passOn
        refine wpAny_bind (wpAny_field he hd h1 ?_)
        rw [if_neg (show ¬ ((Value.ref T == Value.none) = true) from by simp)]
        have fin : wpAny (model X.prog X.w) X.A (setFlight (.ref a) X.env.frame) (fun _ s4 => wpAny (model X.prog X.w) X.A (throw (.ref a) : Sem Flow) (SP X pins D) X.xe s4) X.xe { s' with heap := h3 } := by
          rw [hf]
          refine HandSPX.setFlight_upZ fl3 fun h4 hh4 up4 => wpAny_throw (tk _ _ ?_)
          exact ⟨a, B, sI, pins, σ', H', cls, d, rfl, J, nb, (up.trans up3).trans up4, .inr (.inr (by rw [hs]; exact hh4)), na, os, ag, w⟩
        first
          | exact wpAny_bind (wpAny_pure (wpAny_bind fin))
          | exact wpAny_bind fin
      | @plain x c ts b₀ suite np pos' hds2 l2 hc hsu r ih =>
        intro w
        obtain ⟨b, hb1, hyes, hno⟩ := w
        refine wpAny_handleBy_cons (codeAny_handlers_test ?_) (by intro q; cases q)
        have LT : PySem.W.Looks (model X.prog X.w) h3 (typeOf (.ref a)) cls := fun A Q E s k q => wpAny_typeOf_ref (k _ _ he3) (by rw [hz3.1]; exact q)
        have LM := PySem.W.exm_one (M := model X.prog X.w) (J3.kIn) LT hb1
        have test : ∀ {Q : Value → Shared → Prop} {E : Value → Shared → Prop}, Q c { s' with heap := h3 } → wpAny (model X.prog X.w) (X.A.mark (some (.ref a))) (eval (.Name x np) X.env) Q E { s' with heap := h3 } := fun {Q E} q => by
          obtain ⟨hg, hdbg, hm | ⟨hm, hv, hnn⟩⟩ := hc
          · exact ld_glob (X := X.suite a ((a, oe3) :: (X.pn ++ pins))) S3 hg hm q hdbg
          · exact ld_blt (X := X.suite a ((a, oe3) :: (X.pn ++ pins))) S3 hg hm hv q hnn hdbg
        refine test (LM.here ?_)
        cases b with
        | true =>
          refine codeAny_handlers_suite ?_
          refine HandSPX.lands_againZ fl3 fun h4 fl4 up4 => ?_
          have J4 : Inv X pins σ' H' { s' with heap := h4 } := J.landed nb fl4.1 ((up.trans up3).trans up4) os ag
          obtain ⟨oe4, vs4, he4, hz4, hd4⟩ := fl4.there
          have S4 := J4.suite he4 hd4 na nL nF
          refine wpAny_mono ((hsu a oe4 cls d (X.pn ++ pins) hz4 ⟨_, hd4⟩).run [] _ _ H' _ S4 (hyes rfl a na)) (fun f s6 hsp => ?_) (fun _ _ z => False.elim z)
          cases f with
          | next =>
            obtain ⟨σ6, H6, S6, q6⟩ := hsp
            exact ⟨_, _, S6.unsuite ok, q6⟩
          | brk =>
            obtain ⟨σ6, H6, S6, q6⟩ := hsp
            exact ⟨_, _, S6.unsuite ok, q6⟩
          | cont =>
            obtain ⟨σ6, H6, S6, q6⟩ := hsp
            exact ⟨_, _, S6.unsuite ok, q6⟩
          | ret u =>
            obtain ⟨v6, σ6, H6, S6, r6, q6⟩ := hsp
            exact ⟨_, _, _, S6.unsuite ok, r6, q6⟩
        | false =>
          show wpAny _ X.A (handleBy (.ref a) X.env hds2) _ _ _
          exact ih (hno rfl)
      | @named x n i c ts b₀ suite np pos' hds2 l2 hc hi hln hsu r ih =>
        intro w
        obtain ⟨b, hb1, hyes, hno⟩ := w
        have hloc : Loc X.env.scope n := .inl hln
        refine wpAny_handleBy_cons (codeAny_handlers_test ?_) (by intro q; cases q)
        have LT : PySem.W.Looks (model X.prog X.w) h3 (typeOf (.ref a)) cls := fun A Q E s k q => wpAny_typeOf_ref (k _ _ he3) (by rw [hz3.1]; exact q)
        have LM := PySem.W.exm_one (M := model X.prog X.w) (J3.kIn) LT hb1
        have test : ∀ {Q : Value → Shared → Prop} {E : Value → Shared → Prop}, Q c { s' with heap := h3 } → wpAny (model X.prog X.w) (X.A.mark (some (.ref a))) (eval (.Name x np) X.env) Q E { s' with heap := h3 } := fun {Q E} q => by
          obtain ⟨hg, hdbg, hm | ⟨hm, hv, hnn⟩⟩ := hc
          · exact ld_glob (X := X.suite a ((a, oe3) :: (X.pn ++ pins))) S3 hg hm q hdbg
          · exact ld_blt (X := X.suite a ((a, oe3) :: (X.pn ++ pins))) S3 hg hm hv q hnn hdbg
        refine test (LM.here ?_)
        cases b with
        | true =>
          refine codeAny_handlers_suite_as ?_
          refine HandSPX.lands_againZ fl3 fun h4 fl4 up4 => ?_
          have J4 : Inv X pins σ' H' { s' with heap := h4 } := J.landed nb fl4.1 ((up.trans up3).trans up4) os ag
          obtain ⟨oe4, vs4, he4, hz4, hd4⟩ := fl4.there
          have S4 := J4.suite he4 hd4 na nL nF
          refine store_ok (X := X.suite a ((a, oe4) :: (X.pn ++ pins))) (v := .ref a) S4 hN hi hloc rfl (fun s5 S5 => ?_) (.inr hln)
          refine wpAny_mono ((hsu a oe4 cls d (X.pn ++ pins) hz4 ⟨_, hd4⟩).run [] s5 _ H' _ S5 (hyes rfl a na)) (fun f s6 hsp => ?_) (fun _ _ z => False.elim z)
          have end_ : ∀ {σ6 : L2.St} {H6 : Hp} {Q : Shared → Prop}, Inv (X.suite a ((a, oe4) :: (X.pn ++ pins))) [] σ6 H6 s6 → (∀ s7, Inv X pins (σ6.set i none) H6 s7 → Q s7) →
              wpAny (model X.prog X.w) X.A (do bindName X.env n .none; unbindBehindTheSuite X.env n pos') (fun _ s7 => Q s7) X.xe s6 := fun {σ6 H6 Q} S6 hq => gone_ok (S6.unsuite ok) hN hi hln hq
          cases f with
          | next =>
            obtain ⟨σ6, H6, S6, q6⟩ := hsp
            exact end_ S6 fun s7 J7 => ⟨_, _, J7, q6⟩
          | brk =>
            obtain ⟨σ6, H6, S6, q6⟩ := hsp
            exact end_ S6 fun s7 J7 => ⟨_, _, J7, q6⟩
          | cont =>
            obtain ⟨σ6, H6, S6, q6⟩ := hsp
            exact end_ S6 fun s7 J7 => ⟨_, _, J7, q6⟩
          | ret u =>
            obtain ⟨v6, σ6, H6, S6, r6, q6⟩ := hsp
            exact end_ S6 fun s7 J7 => ⟨_, _, _, J7, r6, q6⟩
        | false =>
          show wpAny _ X.A (handleBy (.ref a) X.env hds2) _ _ _
          exact ih (hno rfl)
    exact go hh w
  · cases f with
    | next =>
      obtain ⟨σ', H', J', q⟩ := hsp
      exact wpAny_execs_nil ⟨σ', H', J'.ofTry ok, q⟩
    | brk =>
      obtain ⟨σ', H', J', q⟩ := hsp
      exact ⟨σ', H', J'.ofTry ok, q⟩
    | cont =>
      obtain ⟨σ', H', J', q⟩ := hsp
      exact ⟨σ', H', J'.ofTry ok, q⟩
    | ret u =>
      obtain ⟨v, σ', H', J', r, q⟩ := hsp
      exact ⟨v, σ', H', J'.ofTry ok, r, q⟩
end
/-! ### the promise of an exception's __init__ -/
def spX (C : Addr) (f : Str) : Sp := fun xs H Q _ => ∃ a v, xs = [.ref a, v] ∧ H a = some (exo a C none) ∧ ∀ dx, H dx = none → dx ≠ a → Q .non (upd (upd H dx (exd dx [(f, v)])) a (exo a C (some dx)))
/-- what a raise needs of its class -/
structure ExS (G : Glo) (mg : Str → Option Value) (c : Nat) (x : Str) (fI : Addr) (fd : FuncData) (ps : List Str) : Prop where
  oex : OexC G.K (G.cls c)
  ini : PySem.W.findIn G.K (.ref (G.cls c)) "__init__" = some (some (.ref fI))
  tfn : PySem.W.typeIn G.K (.ref fI) = some (.type "function")
  bnd : Binds G.K fd ps []
  mg : mg x = some (.ref (G.cls c))
  xf : XfC G.K (G.cls c)
  no : PySem.W.findIn G.K (.ref (G.cls c)) (G.fld (G.xfl c)) = some none
theorem raise_heap {H1 : Hp} {a dx : Addr} {C : Addr} {fs : List (Str × V)} {o0 o1 o2 : HO} (ha : H1 a = none) (hne : dx ≠ a) : upd (del (upd (upd (upd H1 a o0) dx o1) a o2) a) dx (.xd fs) = upd H1 dx (.xd fs) := by
  funext b
  by_cases hb : b = dx
  · subst hb; rw [upd_same, upd_same]
  · rw [upd_ne hb, upd_ne hb]
    by_cases hc : b = a
    · subst hc; rw [del_same, ha]
    · rw [del_ne hc, upd_ne hc, upd_ne hb, upd_ne hc]
theorem pmk_spX {X : Cx} {G : Glo} {c : Nat} {x : Str} {fI : Addr} {fd : FuncData} {ps : List Str} {k d : Nat} {ta : TE} {e : Expr} {p pos : Pos} (hK : X.K = G.K) (E : ExS G X.mg c x fI fd ps)
    (F : FnOk X.prog X.w X.K X.mg X.base (L2.CX X.prog X.w) k fI fd ps (spX (G.cls c) (G.fld (G.xfl c)))) (hr : Room d X.A) (hk : k + 1 ≤ d) (hg : Gl X x) (ha : PE X e ta) (mono : ∀ σ H Q Q', (∀ x H, Q x H → Q' x H) → ta σ H Q → ta σ H Q') (hdb : (x == ("__debug__" : Str)) = false)
    (he : starEach [e] X.env = (false, eval e X.env) :: starEach [] X.env) :
    PMk X (.Call (.Name x p) [e] [] pos) (fun σ H Q => ta σ H fun v H1 => ∀ dx, H1 dx = none → Q (.ref (G.cls c)) (some dx) (upd H1 dx (.xd [(G.fld (G.xfl c), v)]))) := by
  have base := pmk_oex (X := X) (CX := L2.CX X.prog X.w) (dvs := []) (ds := []) (p := p) (pos := pos) (by rw [hK]; exact E.oex) (by rw [hK]; exact E.ini) (by rw [hK]; exact E.tfn) F (hr.mono hk) (by rw [hK]; exact E.bnd) .nil passL hg E.mg (pa_cons ha pa_nil he) hdb he rfl
  intro pins s σ H Q I h
  refine base pins s σ H Q I ?_
  refine mono σ H _ _ (fun v H1 q => ?_) h
  refine ⟨by simp, fun a na => ⟨a, v, rfl, upd_same, fun dx hd hne => ⟨rfl, dx, [(G.fld (G.xfl c), v)], upd_same, ?_, ?_, ?_⟩⟩⟩
  · rw [upd_ne hne, upd_same]
  · rwa [upd_ne hne] at hd
  · rw [raise_heap (C := a) na hne]
    exact q dx (by rwa [upd_ne hne] at hd)
end Dn
namespace Dn
open PySem PySem.Spec L2 PyProof.Rows
/-! ### well-formed statements -/
/-- exceptions: classes with names and the field; except clauses: which classes they take -/
structure Tx where
  exs : List (Nat × Str)
  hcl : List (Str × List (Nat × Bool))
  exf : List (Nat × (Nat × Str))
def kindF (sc : Scope) : Bool := sc.kind == .function
def isLoc (ct : Ct) (x : Str) : Bool := ct.sc.names.lookup x == some .local
def isCel (ct : Ct) (x : Str) : Bool := ct.sc.names.lookup x == some .cell
def swapSet (ct : Ct) (x : Str) (q : Pos) (sc : Scope) (p : Pos) : Bool := isLoc ct x && kindF ct.sc && (q.line == p.line) && !(sc.names.any fun (n, k) => n == x && (k == .local || k == .cell))
def compSet (ct : Ct) (x : Str) (q : Pos) : E → Bool
  | .dcm _ _ _ _ _ _ sc _ p => swapSet ct x q sc p || isCel ct x
  | .comp _ _ _ _ _ sc _ p => swapSet ct x q sc p || isCel ct x
  | _ => true
def E.isTup : E → Bool
  | .tup _ _ _ => true
  | _ => false
def noSwap (n : Nat) : E → Bool
  | .tup es _ _ => (Es.py es).all (foldedForSure 8) || decide (4 ≤ n)
  | _ => true
mutual
def wfHE (ct : Ct) (n : Option (Nat × Str)) : HE → Bool
  | .err i x _ _ _ _ => decide (n = some (i, x)) && decide (ct.N[i]? = some x) && visB ct.sc x && plainX x
  | .tup es _ _ => wfHEs ct n es && decide (es.py.length ≤ sizeLine)
  | _ => true
def wfHEs (ct : Ct) (n : Option (Nat × Str)) : HEs → Bool
  | .nil => true
  | .cons e es => wfHE ct n e && wfHEs ct n es
end
mutual
/-- the fields that a suite reads -/
def HE.flds : HE → List (Nat × Str)
  | .err _ _ _ f n _ => [(f, n)]
  | .tup es _ _ => HEs.flds es
  | _ => []
def HEs.flds : HEs → List (Nat × Str)
  | .nil => []
  | .cons e es => e.flds ++ HEs.flds es
end
def HS.ex : HS → HE
  | .ret e _ => e
  | .set _ _ _ e _ => e
def wfHS (ct : Ct) (n : Option (Nat × Str)) : HS → Bool
  | .ret e _ => wfHE ct n e
  | .set i x _ e _ => wfHE ct n e && decide (ct.N[i]? = some x) && locB ct x && decide (∀ p ∈ n.toList, p.1 ≠ i)
def wfN (ct : Ct) : Option (Nat × Str) → Bool
  | none => true
  | some (i, x) => decide (ct.N[i]? = some x) && isLoc ct x
def wfHd (U : Tx) (ct : Ct) (h : Hd) : Bool := glbB ct.sc h.x && plainX h.x && decide (U.hcl.lookup h.x = some h.cs) && wfN ct h.n && wfHS ct h.n h.su &&
  decide (∀ p ∈ h.cs, p.2 = true → ∀ f ∈ h.su.ex.flds, U.exf.lookup p.1 = some f)
def At.isAt : At → Bool
  | .at_ _ _ _ _ => true
  | _ => false
def wfAt (T : Tb) (ct : Ct) : At → Bool
  | .nm i x _ => decide (ct.N[i]? = some x) && locB ct x
  | .at_ a f x _ => wfE T ct a && decide (f < T.nfl) && decide (T.fln f = x)
mutual
def wfS (T : Tb) (U : Tx) (ct : Ct) : S → Bool
  | .ats ts _ _ e _ => wfE T ct e && ts.all (wfAt T ct) && ts.any At.isAt
  | .delf a lo _ _ _ => wfE T ct a && wfE T ct lo
  | .set i x q e _ => decide (ct.N[i]? = some x) && locB ct x && wfE T ct e && compSet ct x q e
  | .unp ts k q e _ => wfTg ct (.tp ts k q) && wfE T ct e && !e.isComp && noSwap ts.len e
  | .par i j x y px py _ _ a b _ _ _ => decide (ct.N[i]? = some x) && decide (ct.N[j]? = some y) && decide (i ≠ j) && isLoc ct x && isLoc ct y && kindF ct.sc && (py.line == px.line) && wfE T ct a && wfE T ct b &&
      !([a.py, b.py].all (foldedForSure 8)) && !([a.py, b.py].all (constantsAlone 8)) && decide (x ≠ y)
  | .par3 i j l x y z px py pz _ _ a b c _ _ _ => decide (ct.N[i]? = some x) && decide (ct.N[j]? = some y) && decide (ct.N[l]? = some z) && decide (i ≠ j ∧ i ≠ l ∧ j ≠ l) && isLoc ct x && isLoc ct y && isLoc ct z && kindF ct.sc && (py.line == px.line) && (pz.line == px.line) && wfE T ct a && wfE T ct b && wfE T ct c &&
      !([a.py, b.py, c.py].all (foldedForSure 8)) && !([a.py, b.py, c.py].all (constantsAlone 8)) && decide (x ≠ y ∧ x ≠ z ∧ y ≠ z)
  | .sfld a f x _ e _ => wfE T ct a && wfE T ct e && decide (f < T.nfl) && decide (T.fln f = x)
  | .ssub a i _ e _ => wfE T ct a && wfE T ct i && wfE T ct e
  | .aug i x _ _ e _ => decide (ct.N[i]? = some x) && locB ct x && wfE T ct e
  | .afld a f x _ _ e _ => wfE T ct a && wfE T ct e && decide (f < T.nfl) && decide (T.fln f = x)
  | .expr e _ => wfE T ct e && !e.isComp
  | .ret e _ => wfE T ct e
  | .retN _ => true
  | .pass _ => true
  | .brk _ => true
  | .cont _ => true
  | .ife c a b _ => wfE T ct c && tstOk c && wfSs T U ct a && wfSs T U ct b
  | .whl c b _ => wfE T ct c && tstOk c && wfSs T U ct b
  | .for_ tg it b _ => wfTg ct tg && wfI T ct it && (!it.isEnu || tg.isTp) && wfSs T U ct b
  | .rse c f x _ e _ _ => glbB ct.sc x && plainX x && decide ((c, x) ∈ U.exs) && wfE T ct e
  | .try_ b h hs _ => wfSs T U ct b && wfHd U ct h && hs.all (wfHd U ct)
def wfSs (T : Tb) (U : Tx) (ct : Ct) : Ss → Bool
  | .nil => true
  | .cons s ss => wfS T U ct s && wfSs T U ct ss
end
structure CxS (T : Tb) (U : Tx) (G : Glo) (o : Orc) (ct : Ct) (X : Cx) (W : WX) (d : Nat) : Prop extends CxOk T G o ct X W d where
  stk : X.stack = X.env :: X.outer
  frm : X.env.frame = some X.env.locals
  exs : ∀ c x, (c, x) ∈ U.exs → ∃ fI fd ps k, ExS G X.mg c x fI fd ps ∧ k + 1 ≤ d ∧ FnOk X.prog X.w X.K X.mg X.base (L2.CX X.prog X.w) k fI fd ps (spX (G.cls c) (G.fld (G.xfl c)))
  hcl : ∀ x cs, U.hcl.lookup x = some cs → ∃ v, X.mg x = some v ∧ ∀ c b, cs.lookup c = some b → PySem.W.exmOne G.K (.ref (G.cls c)) v = some b
  exf : ∀ c f n, U.exf.lookup c = some (f, n) → G.xfl c = f ∧ G.fld f = n ∧ XfC G.K (G.cls c) ∧ PySem.W.findIn G.K (.ref (G.cls c)) n = some none
section
variable {T : Tb} {U : Tx} {G : Glo} {o : Orc} {ct : Ct} {X : Cx} {W : WX} {d : Nat}
theorem CxS.kind (h : kindF ct.sc = true) (c : CxOk T G o ct X W d) : X.env.scope.kind = .function := by
  rw [c.sc]
  unfold kindF at h
  cases hk : ct.sc.kind <;> rw [hk] at h <;> first | rfl | (cases h)
theorem isLoc_of {x : Str} (h : isLoc ct x = true) (c : CxOk T G o ct X W d) : X.env.scope.names.lookup x = some .local := by
  rw [c.sc]
  unfold isLoc at h
  cases hk : ct.sc.names.lookup x with
  | none => rw [hk] at h; cases h
  | some k => rw [hk] at h; cases k <;> first | rfl | (cases h)
theorem sw2 {env : PySem.Env} {x y : Str} {a b : E} {px py pt p2 : Pos} {kt k2 : Nat} (hk : env.scope.kind = .function) (hx : env.scope.names.lookup x = some .local) (hy : env.scope.names.lookup y = some .local) (hl : (py.line == px.line) = true) (hne : x ≠ y)
    (h1 : [a.py, b.py].all (foldedForSure 8) = false) (h2 : [a.py, b.py].all (constantsAlone 8) = false) :
    swappedStores [.Tuple [.Name x px, .Name y py] kt pt] (.Tuple [a.py, b.py] k2 p2) env = pure (some [x, y]) := by
  have hb : env.blockKind = .function := by unfold Env.blockKind; rw [hk]; rfl
  have kx : env.kindOf x = some .local := hx
  have ky : env.kindOf y = some .local := hy
  have st : ([a.py, b.py].any fun | .Starred .. => true | _ => false) = false := by
    cases a <;> cases b <;> rfl
  unfold swappedStores
  simp only [hb, kx, ky, st, Expr.pos, hl, h1, h2, List.length_cons, List.length_nil, List.filterMap_cons, List.filterMap_nil, List.head?_cons, Option.map_some, Option.getD_some]
  have hd : ([x, y] : List Str).eraseDups.length = 2 := by
    have : (y == x) = false := by simpa using Ne.symm hne
    simp [List.eraseDups_cons, List.filter_cons, this]
  simp [hd]
  intro h
  exfalso
  rcases h with h | h
  · cases a <;> exact Bool.noConfusion h
  · cases b <;> exact Bool.noConfusion h
theorem sw3 {env : PySem.Env} {x y z : Str} {a b c : E} {px py pz pt p2 : Pos} {kt k2 : Nat} (hk : env.scope.kind = .function) (hx : env.scope.names.lookup x = some .local) (hy : env.scope.names.lookup y = some .local) (hz : env.scope.names.lookup z = some .local) (hl : (py.line == px.line) = true) (hl2 : (pz.line == px.line) = true) (hne : x ≠ y ∧ x ≠ z ∧ y ≠ z)
    (h1 : [a.py, b.py, c.py].all (foldedForSure 8) = false) (h2 : [a.py, b.py, c.py].all (constantsAlone 8) = false) :
    swappedStores [.Tuple [.Name x px, .Name y py, .Name z pz] kt pt] (.Tuple [a.py, b.py, c.py] k2 p2) env = pure (some [x, y, z]) := by
  have hb : env.blockKind = .function := by unfold Env.blockKind; rw [hk]; rfl
  have kx : env.kindOf x = some .local := hx
  have ky : env.kindOf y = some .local := hy
  have kz : env.kindOf z = some .local := hz
  unfold swappedStores
  simp only [hb, kx, ky, kz, Expr.pos, hl, hl2, h1, h2, List.length_cons, List.length_nil, List.filterMap_cons, List.filterMap_nil, List.head?_cons, Option.map_some, Option.getD_some]
  have hd : ([x, y, z] : List Str).eraseDups.length = 3 := by
    have e1 : (y == x) = false := by simpa using Ne.symm hne.1
    have e2 : (z == x) = false := by simpa using Ne.symm hne.2.1
    have e3 : (z == y) = false := by simpa using Ne.symm hne.2.2
    simp [List.eraseDups_cons, List.filter_cons, e1, e2, e3]
  simp [hd]
  intro h
  exfalso
  rcases h with h | h | h
  · cases a <;> exact Bool.noConfusion h
  · cases b <;> exact Bool.noConfusion h
  · cases c <;> exact Bool.noConfusion h
theorem pyLen : ∀ ts : Tgs, (Tgs.py ts).length = ts.len
  | .nil => rfl
  | .cons t ts => by
    show (Tg.py t :: Tgs.py ts).length = _
    rw [List.length_cons, pyLen ts]
    rfl
theorem sw0 {env : PySem.Env} {ts : Tgs} {e : E} {k : Nat} {q : Pos} (h : noSwap ts.len e = true) : swappedStores [.Tuple ts.py k q] e.py env = pure none := by
  cases e with
  | tup es k2 p2 =>
    unfold noSwap at h
    rw [Bool.or_eq_true] at h
    unfold swappedStores
    dsimp only [E.py]
    split
    · rfl
    · split
      · rfl
      · split
        · rfl
        · rcases h with h | h
          · rw [if_pos h]
          · rename_i h0 _ _
            exfalso
            rw [decide_eq_true_eq] at h
            apply h0
            have e2 : ((Tgs.py ts).length == 2) = false := by rw [pyLen]; simp; omega
            have e3 : ((Tgs.py ts).length == 3) = false := by rw [pyLen]; simp; omega
            rw [e2, e3]
            rfl
  | _ => rfl
end
end Dn
namespace Dn
open PySem PySem.Spec L2 PyProof.Rows
/-! ### stores into objects -/
section
variable {X : Cx} {G : Glo} {ι γ : List Addr} {M M' : Mem} {H : Hp} {pins : List (Addr × Obj)} {σ : L2.St} {s : Shared}
theorem dK_nodup (I : Inv X pins σ H s) {a : Addr} {m : List (Key × V)} (h : H a = some (.dK m)) : (m.map (·.1)).Nodup := by
  obtain ⟨_, _, vs, kv, o, es, ep, h1, h2, h3, h4, h5, h6⟩ := dk_of I.hok h
  rw [kv.keys]
  exact h6
theorem kt_keys {H : Hp} : ∀ {l : List (List Key × V)} {m : List (List Key × Addr × Value)}, KT H l m → l.map (·.1) = m.map (·.1)
  | _, _, .nil => rfl
  | _, _, .cons h r => by rw [List.map_cons, List.map_cons, h.1, kt_keys r]
theorem dT_nodup (I : Inv X pins σ H s) {a : Addr} {m : List (List Key × V)} (h : H a = some (.dT m)) : (m.map (·.1)).Nodup := by
  obtain ⟨_, _, xs, kt, dd⟩ := dt_of I.hok h
  rw [kt_keys kt]
  obtain ⟨_, _, _, _, _, _, _, _, hn⟩ := dd
  exact hn
theorem RKV.nodupL {κ κ' : Type} {f : κ → κ'} : ∀ {l : List (κ × Va)} {m : List (κ' × V)}, RKV f ι γ H l m → m.map (·.1) = l.map (fun p => f p.1)
  | _, _, .nil => rfl
  | _, _, .cons _ r => by rw [List.map_cons, List.map_cons, r.nodupL]
theorem dput_at (I : Inv X pins σ H s) (R : RM G ι γ M H) {n : Nat} {a : Addr} {k v : Va} {y x : V} (hn : ι[n]? = some a) (rk : RV ι γ H k y) (rv : RV ι γ H v x) (h : dput M n k v = some M') :
    ∃ H', DPut H a y x H' ∧ Ext ι H ι H' ∧ RM G ι γ M' H' := by
  unfold dput at h
  split at h
  · rename_i kvs i q
    split at h
    · rename_i hl
      simp only [Option.some.injEq] at h
      subst h
      cases rk
      obtain ⟨m, h1, h2⟩ := R.at_ n _ a q hn
      refine ⟨_, DPut.k (k := Sum.inl i) h1 (by rw [← h2.length]; exact hl), Ext.mut hn, R.mut hn ⟨_, upd_same, ?_⟩⟩
      exact (h2.put (fun _ _ => kyS_inj) (Sum.inl i) rv (dK_nodup I h1)).mono (Ext.mut hn)
    · cases h
  · rename_i kvs i q
    split at h
    · rename_i hl
      simp only [Option.some.injEq] at h
      subst h
      cases rk
      obtain ⟨m, h1, h2⟩ := R.at_ n _ a q hn
      refine ⟨_, DPut.k (k := Sum.inr ⟨i.toArray⟩) h1 (by rw [← h2.length]; exact hl), Ext.mut hn, R.mut hn ⟨_, upd_same, ?_⟩⟩
      exact (h2.put (fun _ _ => kyS_inj) (Sum.inr i) rv (dK_nodup I h1)).mono (Ext.mut hn)
    · cases h
  · rename_i kvs vs q
    split at h
    · rename_i ks e
      split at h
      · rename_i hl
        simp only [Option.some.injEq] at h
        subst h
        cases rk with
        | tup nb hb sb =>
          obtain ⟨m, h1, h2⟩ := R.at_ n _ a q hn
          rw [keys_rv e sb] at hb
          refine ⟨_, DPut.t (k := ks.map kyS) h1 hb (by rw [← h2.length]; exact hl), Ext.mut hn, R.mut hn ⟨_, upd_same, ?_⟩⟩
          exact (h2.put (fun _ _ => kyS_map_inj) ks rv (dT_nodup I h1)).mono (Ext.mut hn)
      · cases h
    · cases h
  · cases h
/-- o[i] = v, whatever o is -/
theorem set_all (hu : X.A.units + 64 < cLine) {w i v : Va} {xo xi xv : V} {ov iv u : Value} {Q : Hp → Prop} (I : Inv X pins σ H s) (ro : RelV xo ov) (ri : RelV xi iv) (ru : RelV xv u) (R : RM G ι γ M H) (rw' : RV ι γ H w xo) (rvi : RV ι γ H i xi) (rvv : RV ι γ H v xv)
    (h : setAt M w i v = some M') (q : ∀ H', Ext ι H ι H' → RM G ι γ M' H' → Q H') : wpAny (model X.prog X.w) X.A (setItem ov iv u) (fun _ s' => ∃ H', Inv X pins σ H' s' ∧ Q H') X.xe s := by
  unfold setAt at h
  split at h
  · rename_i n
    cases rw' with
    | ref hn =>
      rename_i a
      split at h
      · rename_i xs hM
        split at h
        · rename_i k
          obtain ⟨ys, h1, h2⟩ := R.at_ n _ a hM hn
          cases rvi
          obtain ⟨j, hj, e⟩ := Option.map_eq_some_iff.mp h
          subst e
          refine set_list pins s σ H _ _ _ ov iv u Q I ro ri ru ⟨a, ys, k, j, rfl, rfl, h1, by rw [← h2.length]; exact hj, q _ (Ext.mut hn) (R.mut hn ⟨_, upd_same, ?_⟩)⟩
          exact (RVs.set rvv j h2).mono (Ext.mut hn)
        · cases h
      · obtain ⟨H', g, e, R'⟩ := dput_at I R hn rvi rvv h
        obtain rfl : ov = Value.ref a := ro
        exact d_setItem (by omega) I g ri ru fun s4 I4 => ⟨H', I4, q H' e R'⟩
  · cases h
theorem RKV.putF {f : Nat → Str} (inj : ∀ a b, f a = f b → a = b) (k : Nat) {v : Va} {x : V} (hv : RV ι γ H v x) : ∀ {l : List (Nat × Va)} {m : List (Str × V)}, RKV f ι γ H l m → RKV f ι γ H (Dn.put l k v) (L2.putF (f k) x m)
  | _, _, .nil => .cons hv .nil
  | (a, u) :: l, _, .cons h r => by
    by_cases e : a = k
    · subst e
      simp only [Dn.put, L2.putF, if_pos]
      exact .cons hv r
    · have e' : ¬ f a = f k := fun z => e (inj _ _ z)
      simp only [Dn.put, L2.putF, if_neg e, if_neg e']
      exact .cons h (RKV.putF inj k hv r)
theorem RKV.lookF {f : Nat → Str} (inj : ∀ a b, f a = f b → a = b) (k : Nat) {v : Va} : ∀ {l : List (Nat × Va)} {m : List (Str × V)}, RKV f ι γ H l m → Dn.look l k = some v → ∃ x, m.lookup (f k) = some x ∧ RV ι γ H v x
  | _, _, .nil, h => by cases h
  | (a, u) :: l, _, .cons h r, e => by
    by_cases z : a = k
    · subst z
      simp only [Dn.look, if_pos, Option.some.injEq] at e
      subst e
      exact ⟨_, by simp [List.lookup], h⟩
    · have z' : (f k == f a) = false := by simpa using fun q => z (inj _ _ q.symm)
      simp only [Dn.look, if_neg z] at e
      obtain ⟨x, h1, h2⟩ := RKV.lookF inj k r e
      exact ⟨x, by simp only [List.lookup, z']; exact h1, h2⟩
/-- o.f = v -/
theorem setFld_at {w v : Va} {x xv : V} {f : Nat} (R : RM G ι γ M H) (rw' : RV ι γ H w x) (rv : RV ι γ H v xv) (h : setFld M w f v = some M') :
    ∃ a c dx gs, x = .ref a ∧ H a = some (.ins (G.cls c) dx gs) ∧ c < G.ncl ∧ gs.length < 1000 ∧ Ext ι H ι (upd H a (.ins (G.cls c) dx (L2.putF (G.fld f) xv gs))) ∧ RM G ι γ M' (upd H a (.ins (G.cls c) dx (L2.putF (G.fld f) xv gs))) := by
  unfold setFld at h
  split at h
  · rename_i n
    cases rw' with
    | ref hn =>
      rename_i a
      split at h
      · rename_i c fs hM
        split at h
        · rename_i hl
          simp only [Option.some.injEq] at h
          subst h
          obtain ⟨hc, dx, gs, h1, h2, h3, h4⟩ := R.at_ n _ a hM hn
          have ndx : dx ≠ a := fun z => h2 (by rw [z]; exact List.mem_of_getElem? hn)
          refine ⟨a, c, dx, gs, rfl, h1, hc, by rw [← h4.length]; exact hl, Ext.mut hn, R.mut hn ⟨hc, dx, _, upd_same, h2, by rw [upd_ne ndx]; exact h3, ?_⟩⟩
          exact (h4.putF G.fldI f rv).mono (Ext.mut hn)
        · cases h
      · cases h
  · cases h
end

section
variable {T : Tb} {U : Tx} {G : Glo} {o : Orc} {ct : Ct} {X : Cx} {W : WX} {d : Nat}
/-! ### statements -/
theorem PostS.here {ι γ : List Addr} {H : Hp} {D : Ends} {M : Mem} {env : Env} {σ : L2.St} (R : RM G ι γ M H) (rs : RS ι γ H env σ) (h : PostS G W ι γ H D (.nx env M)) : D.nx σ H := h ι H σ (Ext.refl ι H) R rs
theorem sw_cell (e : E) {x : Str} {q : Pos} {l : Nat} {env : PySem.Env} (h : env.scope.names.lookup x = some .cell) : swapsWith (E.py e) (some (.Name x q)) l env = pure false := by
  have k1 : (env.kindOf x == some NameKind.local) = false := by
    have : env.kindOf x = some .cell := h
    rw [this]
    rfl
  cases e <;> first
    | rfl
    | (unfold swapsWith; simp only [E.py, k1, Bool.and_false, Bool.false_and]; done)
    | (unfold swapsWith; simp only [E.py, k1, Bool.and_false, Bool.false_and]; rfl)
theorem CxOk.ssetX (c : CxOk T G o ct X W d) {i : Nat} {x : Str} {q p : Pos} {e : E} (h1 : ct.N[i]? = some x) (h2 : locB ct x = true) (h3 : isCel ct x = true) (he : PE X e.py (rdE G W (dE o e))) :
    PS X (S.py (.set i x q e p)) (rdS G W (dS o (.set i x q e p))) := by
  obtain ⟨l1, l2⟩ := loc_of c h2
  have hc : X.env.scope.names.lookup x = some .cell := by
    rw [c.sc]
    simpa [isCel] using h3
  refine PS.imp (ps_set (i := i) (by rw [c.N]; exact c.nd) (by rw [c.N]; exact h1) l1 he (sw_cell e hc) l2) fun D σ H q => ?_
  obtain ⟨ι, γ, M, env, rs, R, ps⟩ := q
  simp only [dS] at ps
  exact ⟨ι, γ, M, env, rs, R, PostS.bind _ rs ps fun v M1 ι1 H1 e1 R1 p1 y ry => p1 ι1 H1 _ (Ext.refl _ _) R1 ((rs.mono e1).set ry)⟩
theorem CxOk.sset (c : CxOk T G o ct X W d) {i : Nat} {x : Str} {q p : Pos} {e : E} (h1 : ct.N[i]? = some x) (h2 : locB ct x = true) (hc : e.isComp = false) (he : PE X e.py (rdE G W (dE o e))) :
    PS X (S.py (.set i x q e p)) (rdS G W (dS o (.set i x q e p))) := by
  obtain ⟨l1, l2⟩ := loc_of c h2
  refine PS.imp (ps_set (i := i) (by rw [c.N]; exact c.nd) (by rw [c.N]; exact h1) l1 he (E.swaps e hc _ _ _) l2) fun D σ H q => ?_
  obtain ⟨ι, γ, M, env, rs, R, ps⟩ := q
  simp only [dS] at ps
  exact ⟨ι, γ, M, env, rs, R, PostS.bind _ rs ps fun v M1 ι1 H1 e1 R1 p1 y ry => p1 ι1 H1 _ (Ext.refl _ _) R1 ((rs.mono e1).set ry)⟩
theorem CxOk.ssetC (c : CxOk T G o ct X W d) {i : Nat} {x : Str} {q p : Pos} {m : Bool} {elt : E} {tg : Tg} {it : It'} {ifs : Es} {sc : Scope} {own : List (Str × Nat)} {p' : Pos} (h1 : ct.N[i]? = some x) (hcs : swapSet ct x q sc p' = true)
    (hw : wfE T ct (.comp m elt tg it ifs sc own p') = true) : PS X (S.py (.set i x q (.comp m elt tg it ifs sc own p') p)) (rdS G W (dS o (.set i x q (.comp m elt tg it ifs sc own p') p))) := by
  simp only [swapSet, Bool.and_eq_true, Bool.not_eq_true'] at hcs
  obtain ⟨⟨⟨hl, hk⟩, hq⟩, ha⟩ := hcs
  have hl' := isLoc_of hl c
  have h' := hw
  simp only [wfE, Bool.and_eq_true, decide_eq_true_eq] at h'
  obtain ⟨⟨⟨⟨⟨⟨⟨⟨⟨w1, _⟩, w2⟩, hblk⟩, htg⟩, hsl⟩, w6⟩, w7⟩, w8⟩, w9⟩ := h'
  have hi : PI X (Tg.py tg) (It'.py it) (rdI G W (dI o it)) := sI it ct X W tg w1 (fun z => by rw [z] at w2; simpa using w2) c
  refine PS.imp (ps_setLc (i := i) (own := own) c.calm (by rw [c.N]; exact c.nd) (by rw [c.N]; exact h1) hl' (sw_true (CxS.kind hk c) hl' hq ha) hi (by rw [c.N, c.sc]; exact blkOk_by hblk) (fun s H C cl fp => sTg (c.blk sc s H C cl fp) tg htg)
    (fun s H C cl fp => (sEs ifs _ _ _ w6 (c.blk sc s H C cl fp)).2.2.1 w7 w8) (fun s H C cl fp => (sE elt _ _ _ w9 (c.blk sc s H C cl fp)).1) (It'.folded it _)) fun D σ H q => ?_
  obtain ⟨ι, γ, M, env, rs, R, ps⟩ := q
  simp only [dS] at ps
  refine tLc_of c hsl (p := p') (m := m) ⟨ι, γ, M, env, rs, R, PostS.bind _ rs ps fun v M1 ι1 H1 e1 R1 p1 y ry => ?_⟩
  exact p1 ι1 H1 _ (Ext.refl _ _) R1 ((rs.mono e1).set ry)
theorem CxOk.ssetD (c : CxOk T G o ct X W d) {i : Nat} {x : Str} {q p : Pos} {tu : Bool} {kx vx : E} {tg : Tg} {it : It'} {ifs : Es} {sc : Scope} {own : List (Str × Nat)} {p' : Pos} (h1 : ct.N[i]? = some x) (hcs : swapSet ct x q sc p' = true)
    (hw : wfE T ct (.dcm tu kx vx tg it ifs sc own p') = true) : PS X (S.py (.set i x q (.dcm tu kx vx tg it ifs sc own p') p)) (rdS G W (dS o (.set i x q (.dcm tu kx vx tg it ifs sc own p') p))) := by
  simp only [swapSet, Bool.and_eq_true, Bool.not_eq_true'] at hcs
  obtain ⟨⟨⟨hl, hk⟩, hq⟩, ha⟩ := hcs
  have hl' := isLoc_of hl c
  have h' := hw
  simp only [wfE, Bool.and_eq_true, decide_eq_true_eq] at h'
  obtain ⟨⟨⟨⟨⟨⟨⟨⟨⟨w1, w2⟩, hblk⟩, htg⟩, hsl⟩, w6⟩, w7⟩, w8⟩, w9⟩, w10⟩ := h'
  have hi : PI X (Tg.py tg) (It'.py it) (rdI G W (dI o it)) := sI it ct X W tg w1 (fun z => by rw [z] at w2; simpa using w2) c
  refine PS.imp (ps_setDcG (O := if tu then .dT [] else .dK []) (i := i) (own := own) (fun H h hb => dcm_empty H h hb) c.units c.calm (by rw [c.N]; exact c.nd) (by rw [c.N]; exact h1) hl' (sw_dict (CxS.kind hk c) hl' hq ha) hi (by rw [c.N, c.sc]; exact blkOk_by hblk)
    (fun s H C cl fp => sTg (c.blk sc s H C cl fp) tg htg) (fun s H C cl fp => (sEs ifs _ _ _ w6 (c.blk sc s H C cl fp)).2.2.1 w7 w8) (fun s H C cl fp => (sE kx _ _ _ w9 (c.blk sc s H C cl fp)).1) (fun s H C cl fp => (sE vx _ _ _ w10 (c.blk sc s H C cl fp)).1) (It'.folded it _)) fun D σ H q => ?_
  obtain ⟨ι, γ, M, env, rs, R, ps⟩ := q
  simp only [dS] at ps
  refine dcm_t hsl (sc := sc) (p := p') ⟨ι, γ, M, env, rs, R, PostS.bind _ rs ps fun v M1 ι1 H1 e1 R1 p1 y ry => ?_⟩
  exact p1 ι1 H1 _ (Ext.refl _ _) R1 ((rs.mono e1).set ry)
/-! several targets, fields among them -/
theorem At.each (t : At) (r : List Expr) (env : PySem.Env) : assignEach (At.py t :: r) env = (false, assign (At.py t) env) :: assignEach r env := by
  cases t <;> rfl
theorem Ats.each : ∀ (ts : List At) (env : PySem.Env), (assignEach (ts.map At.py) env).findIdx? (·.1) = none
  | [], _ => rfl
  | t :: ts, env => by
    rw [List.map_cons, At.each, List.findIdx?_cons]
    simp only [Bool.false_eq_true, if_false]
    rw [Ats.each ts env]
    rfl
theorem Ats.eachLen : ∀ (ts : List At) (env : PySem.Env), (assignEach (ts.map At.py) env).length = ts.length
  | [], _ => rfl
  | t :: ts, env => by rw [List.map_cons, At.each, List.length_cons, Ats.eachLen ts env]; rfl
theorem setAts_len : ∀ {ts : List At} {vs : List Va} {env : Env} {M : Mem} {r : Env × Mem}, setAts o ts vs env M = some r → vs.length = ts.length
  | [], [], _, _, _, _ => rfl
  | [], _ :: _, _, _, _, h => by simp [setAts] at h
  | .nm _ _ _ :: _, [], _, _, _, h => by simp [setAts] at h
  | .at_ _ _ _ _ :: _, [], _, _, _, h => by simp [setAts] at h
  | .nm i x p :: ts, v :: vs, env, M, r, h => by
    simp only [setAts] at h
    rw [List.length_cons, List.length_cons, setAts_len h]
  | .at_ a f x p :: ts, v :: vs, env, M, r, h => by
    simp only [setAts] at h
    split at h
    · split at h
      · rw [List.length_cons, List.length_cons, setAts_len h]
      · cases h
    · cases h
def rdAts (G : Glo) (o : Orc) (ts : List At) : TGs := fun xs σ H Q => ∃ ι γ M vs env env' M', RS ι γ H env σ ∧ RM G ι γ M H ∧ RVs ι γ H vs xs ∧ setAts o ts vs env M = some (env', M') ∧ ∀ ι' H' σ', Ext ι H ι' H' → RM G ι' γ M' H' → RS ι' γ H' env' σ' → Q σ' H'
theorem sAts (c : CxOk T G o ct X W d) : ∀ (ts : List At), ts.all (wfAt T ct) = true → PGs X (ts.map At.py) (rdAts G o ts)
  | [], _ => by
    refine ⟨fun pins s σ H ys us Q I r hq => pgs_nil.run pins s σ H ys us Q I r ?_⟩
    obtain ⟨ι, γ, M, vs, env, env', M', rs, R, rv, e, k⟩ := hq
    cases vs with
    | nil =>
      cases rv
      simp only [setAts, Option.some.injEq, Prod.mk.injEq] at e
      obtain ⟨rfl, rfl⟩ := e
      exact ⟨rfl, k ι H σ (Ext.refl _ _) R rs⟩
    | cons _ _ => simp [setAts] at e
  | t :: ts, h => by
    rw [List.all_cons, Bool.and_eq_true] at h
    cases t with
    | nm i x p =>
      have hw := h.1
      simp only [wfAt, Bool.and_eq_true, decide_eq_true_eq] at hw
      obtain ⟨l1, l2⟩ := loc_of c hw.2
      have pg := pgs_cons (pg_name (pos := p) (by rw [c.N]; exact c.nd) (by rw [c.N]; exact hw.1) l1 l2) (sAts c ts h.2) rfl
      refine ⟨fun pins s σ H ys us Q I r hq => pg.run pins s σ H ys us Q I r ?_⟩
      obtain ⟨ι, γ, M, vs, env, env', M', rs, R, rv, e, k⟩ := hq
      cases rv with
      | nil => simp [setAts] at e
      | cons r1 r2 =>
        simp only [setAts] at e
        exact ⟨_, _, rfl, ι, γ, M, _, _, env', M', rs.set r1, R, r2, e, k⟩
    | at_ a f x p =>
      have hw := h.1
      simp only [wfAt, Bool.and_eq_true, decide_eq_true_eq] at hw
      have pg := pgs_cons (pg_fld (f := x) (pos := p) (sE a ct X W hw.1.1 c).1) (sAts c ts h.2) rfl
      refine ⟨fun pins s σ H ys us Q I r hq => pg.run pins s σ H ys us Q I r ?_⟩
      obtain ⟨ι, γ, M, vs, env, env', M', rs, R, rv, e, k⟩ := hq
      cases rv with
      | nil => simp [setAts] at e
      | cons r1 r2 =>
        simp only [setAts] at e
        split at e
        · rename_i w M1 hd
          split at e
          · rename_i M2 hs
            refine ⟨_, _, rfl, ι, γ, M, env, rs, R, ?_⟩
            show Post G W ι γ H σ _ (dE o a env M)
            rw [hd]
            intro ι1 H1 e1 R1 z rz
            obtain ⟨a', cc, dx, gs, z1, z2, z3, z4, z5, z6⟩ := setFld_at R1 rz (r1.mono e1) hs
            have hx' : x = G.fld f := by rw [← hw.2, c.tb.fnm2 f hw.1.2]
            subst hx'
            obtain ⟨k1, _, k2⟩ := c.tb.cls cc (by rw [c.tb.ncl]; exact z3)
            refine ⟨a', G.cls cc, dx, gs, z1, z2, by rw [c.K]; exact k1, by rw [c.K]; exact k2 f hw.1.2, z4, ?_⟩
            exact ⟨ι1, γ, M2, _, env, env', M', (rs.mono e1).mono z5, z6, (r2.mono e1).mono z5, e, fun ι' H' σ' e' R' rs' => k ι' H' σ' ((e1.trans z5).trans e') R' rs'⟩
          · cases e
        · cases e
theorem fm_short {α β : Type} (f : α → Option β) : ∀ {l : List α}, (∃ x ∈ l, f x = none) → (l.filterMap f).length < l.length
  | [], h => by obtain ⟨_, h, _⟩ := h; cases h
  | a :: l, h => by
    have le : (l.filterMap f).length ≤ l.length := List.length_filterMap_le f l
    rw [List.filterMap_cons]
    cases e : f a with
    | none => simp only [List.length_cons]; omega
    | some b =>
      obtain ⟨x, hx, hn⟩ := h
      rcases List.mem_cons.mp hx with z | hx
      · subst z; rw [e] at hn; cases hn
      · have := fm_short f ⟨x, hx, hn⟩
        simp only [List.length_cons]
        omega
theorem swA {env : PySem.Env} {ts : List At} {e : E} {k : Nat} {q : Pos} (h : ts.any At.isAt = true) : swappedStores [.Tuple (ts.map At.py) k q] e.py env = pure none := by
  cases e with
  | tup es k2 p2 =>
    unfold swappedStores
    dsimp only [E.py]
    split
    · rfl
    · split
      · rfl
      · split
        · rfl
        · rename_i hn
          exfalso
          apply hn
          rw [Bool.or_eq_true]
          left
          rw [bne_iff_ne]
          refine Nat.ne_of_lt (fm_short _ ?_)
          obtain ⟨t, ht, hA⟩ := List.any_eq_true.mp h
          refine ⟨t.py, List.mem_map.mpr ⟨t, ht, rfl⟩, ?_⟩
          cases t with
          | nm _ _ _ => cases hA
          | at_ _ _ _ _ => rfl
  | _ => rfl
theorem CxOk.sats (c : CxOk T G o ct X W d) {ts : List At} {k : Nat} {q p : Pos} {e : E} (h1 : ts.all (wfAt T ct) = true) (h2 : ts.any At.isAt = true) (he : PE X e.py (rdE G W (dE o e))) : PS X (S.py (.ats ts k q e p)) (rdS G W (dS o (.ats ts k q e p))) := by
  have pg := pg_tup (pos := q) (k := k) c.calm (sAts c ts h1) (Ats.eachLen ts _) (Ats.each ts _)
  have base := ps_asg (pos := p) he pg (by rw [swapsWithSole]; exact E.swapsT e _ _ _ _ _) (swA h2) rfl
  refine PS.imp base fun D σ H q => ?_
  obtain ⟨ι, γ, M, env, rs, R, ps⟩ := q
  simp only [dS] at ps
  refine ⟨ι, γ, M, env, rs, R, PostS.bind _ rs ps fun v M1 ι1 H1 e1 R1 p1 y ry => ?_⟩
  split at p1
  · rename_i vs
    cases hs : setAts o ts vs env M1 with
    | none => rw [hs] at p1; exact p1.elim
    | some r =>
      obtain ⟨env', M'⟩ := r
      rw [hs] at p1
      cases ry with
      | tup n h3 s1 => exact ⟨_, _, rfl, SqT.of h3, by rw [← s1.length]; exact setAts_len hs, ι1, γ, M1, vs, env, env', M', rs.mono e1, R1, s1, hs, fun ι' H' σ' e' R' rs' => p1 ι' H' σ' e' R' rs'⟩
  · exact p1.elim
theorem CxOk.sdelf (c : CxOk T G o ct X W d) {a lo : E} {p2 q p : Pos} (ha : PE X a.py (rdE G W (dE o a))) (hl : PE X lo.py (rdE G W (dE o lo))) : PS X (S.py (.delf a lo p2 q p)) (rdS G W (dS o (.delf a lo p2 q p))) := by
  refine PS.imp (ps_delF ha hl) fun D σ H q => ?_
  obtain ⟨ι, γ, M, env, rs, R, ps⟩ := q
  simp only [dS] at ps
  refine ⟨ι, γ, M, env, rs, R, PostS.bind _ rs ps fun v M1 ι1 H1 e1 R1 p1 y ry => ?_⟩
  refine ⟨ι1, γ, M1, env, rs.mono e1, R1, PostS.bind _ (rs.mono e1) p1 fun w M2 ι2 H2 e2 R2 p2 z rz => ?_⟩
  unfold delFrom at p2
  split at p2
  · rename_i n i
    split at p2
    · rename_i xs hM
      split at p2
      · rename_i hi
        cases ry with
        | ref hn =>
          rename_i a'
          cases rz
          obtain ⟨ys, g1, g2⟩ := R2.at_ n _ a' hM (e2.ix hn)
          have ex : Ext ι2 H2 ι2 (upd H2 a' (.lst (ys.take i.toNat))) := Ext.mut (e2.ix hn)
          refine ⟨a', ys, i.toNat, rfl, by rw [Int.toNat_of_nonneg hi.1], g1, by rw [← g2.length]; exact hi.2, ?_⟩
          exact p2 ι2 _ σ ex (R2.mut (e2.ix hn) ⟨_, upd_same, (g2.take _).mono ex⟩) (((rs.mono e1).mono e2).mono ex)
      · exact p2.elim
    · exact p2.elim
  · exact p2.elim
theorem CxOk.sunp (c : CxOk T G o ct X W d) {ts : Tgs} {k : Nat} {q p : Pos} {e : E} (h1 : wfTg ct (.tp ts k q) = true) (hc : e.isComp = false) (hn : noSwap ts.len e = true) (he : PE X e.py (rdE G W (dE o e))) :
    PS X (S.py (.unp ts k q e p)) (rdS G W (dS o (.unp ts k q e p))) := by
  have base := ps_asg (pos := p) he (sTg c (.tp ts k q) h1) (by rw [swapsWithSole]; exact E.swaps e hc _ _ _) (sw0 hn) (by rw [Tg.each]; rfl)
  refine PS.imp base fun D σ H q => ?_
  obtain ⟨ι, γ, M, env, rs, R, ps⟩ := q
  simp only [dS] at ps
  refine ⟨ι, γ, M, env, rs, R, PostS.bind _ rs ps fun v M1 ι1 H1 e1 R1 p1 y ry => ?_⟩
  split at p1
  · rename_i env' he'
    exact ⟨ι1, γ, M1, v, env, env', rs.mono e1, R1, ry, he', fun σ' rs' _ => p1 ι1 H1 σ' (Ext.refl _ _) R1 rs'⟩
  · exact p1.elim
theorem CxOk.spar (c : CxOk T G o ct X W d) {i j : Nat} {x y : Str} {px py pt : Pos} {kt : Nat} {a b : E} {k2 : Nat} {p2 p : Pos} (hw : wfS T U ct (.par i j x y px py pt kt a b k2 p2 p) = true) (ha : PA X (Es.py (.cons a (.cons b .nil))) (rdA G W (dEs o (.cons a (.cons b .nil))))) :
    PS X (S.py (.par i j x y px py pt kt a b k2 p2 p)) (rdS G W (dS o (.par i j x y px py pt kt a b k2 p2 p))) := by
  simp only [wfS, Bool.and_eq_true, decide_eq_true_eq, Bool.not_eq_true'] at hw
  obtain ⟨⟨⟨⟨⟨⟨⟨⟨⟨⟨⟨w1, w2⟩, w3⟩, w4⟩, w5⟩, w6⟩, w7⟩, _⟩, _⟩, w8⟩, w9⟩, w10⟩ := hw
  have hx := isLoc_of w4 c
  have hy := isLoc_of w5 c
  refine PS.imp (ps_par (i := i) (j := j) c.calm (by rw [c.N]; exact c.nd) (by rw [c.N]; exact w1) (by rw [c.N]; exact w2) w3 hx hy ha (sw2 (CxS.kind w6 c) hx hy w7 w10 w8 w9) rfl) fun D σ H q => ?_
  obtain ⟨ι, γ, M, env, rs, R, ps⟩ := q
  simp only [dS] at ps
  refine ⟨ι, γ, M, env, rs, R, PostS.bind _ rs ps fun vs M1 ι1 H1 e1 R1 p1 ys ry => ?_⟩
  split at p1
  · cases ry with
    | cons r1 r2 =>
      cases r2 with
      | cons r2 r3 =>
        cases r3
        exact ⟨_, _, rfl, p1 ι1 H1 _ (Ext.refl _ _) R1 (((rs.mono e1).set r1).set r2)⟩
  · exact p1.elim
theorem CxOk.spar3 (c : CxOk T G o ct X W d) {i j l : Nat} {x y z : Str} {px py pz pt : Pos} {kt : Nat} {a b e : E} {k2 : Nat} {p2 p : Pos} (hw : wfS T U ct (.par3 i j l x y z px py pz pt kt a b e k2 p2 p) = true) (ha : PA X (Es.py (.cons a (.cons b (.cons e .nil)))) (rdA G W (dEs o (.cons a (.cons b (.cons e .nil)))))) :
    PS X (S.py (.par3 i j l x y z px py pz pt kt a b e k2 p2 p)) (rdS G W (dS o (.par3 i j l x y z px py pz pt kt a b e k2 p2 p))) := by
  simp only [wfS, Bool.and_eq_true, decide_eq_true_eq, Bool.not_eq_true'] at hw
  obtain ⟨⟨⟨⟨⟨⟨⟨⟨⟨⟨⟨⟨⟨⟨⟨w1, w2⟩, w2'⟩, w3⟩, w4⟩, w5⟩, w5'⟩, w6⟩, w7⟩, w7'⟩, _⟩, _⟩, _⟩, w8⟩, w9⟩, w10⟩ := hw
  have hx := isLoc_of w4 c
  have hy := isLoc_of w5 c
  have hz := isLoc_of w5' c
  refine PS.imp (ps_par3 (i := i) (j := j) (l := l) c.calm (by rw [c.N]; exact c.nd) (by rw [c.N]; exact w1) (by rw [c.N]; exact w2) (by rw [c.N]; exact w2') w3.1 w3.2.1 w3.2.2 hx hy hz ha (sw3 (CxS.kind w6 c) hx hy hz w7 w7' w10 w8 w9) rfl) fun D σ H q => ?_
  obtain ⟨ι, γ, M, env, rs, R, ps⟩ := q
  simp only [dS] at ps
  refine ⟨ι, γ, M, env, rs, R, PostS.bind _ rs ps fun vs M1 ι1 H1 e1 R1 p1 ys ry => ?_⟩
  split at p1
  · cases ry with
    | cons r1 r2 =>
      cases r2 with
      | cons r2 r3 =>
        cases r3 with
        | cons r3 r4 =>
          cases r4
          exact ⟨_, _, _, rfl, p1 ι1 H1 _ (Ext.refl _ _) R1 ((((rs.mono e1).set r1).set r2).set r3)⟩
  · exact p1.elim
theorem CxOk.ssfld (c : CxOk T G o ct X W d) {a : E} {f : Nat} {x : Str} {q p : Pos} {e : E} (hf : f < T.nfl) (hx : T.fln f = x) (ha : PE X a.py (rdE G W (dE o a))) (he : PE X e.py (rdE G W (dE o e))) :
    PS X (S.py (.sfld a f x q e p)) (rdS G W (dS o (.sfld a f x q e p))) := by
  refine PS.imp (ps_fld ha he (E.swapsA e _ _ _ _ _)) fun D σ H q => ?_
  obtain ⟨ι, γ, M, env, rs, R, ps⟩ := q
  simp only [dS] at ps
  refine ⟨ι, γ, M, env, rs, R, PostS.bind _ rs ps fun v M1 ι1 H1 e1 R1 p1 y ry => ?_⟩
  refine ⟨ι1, γ, M1, env, rs.mono e1, R1, PostS.bind _ (rs.mono e1) p1 fun w M2 ι2 H2 e2 R2 p2 z rz => ?_⟩
  cases hs : setFld M2 w f v with
  | none => rw [hs] at p2; exact p2.elim
  | some M3 =>
    rw [hs] at p2
    obtain ⟨a', cc, dx, gs, z1, z2, z3, z4, z5, z6⟩ := setFld_at R2 rz (ry.mono e2) hs
    have hx' : x = G.fld f := by rw [← hx, c.tb.fnm2 f hf]
    subst hx'
    obtain ⟨k1, _, k2⟩ := c.tb.cls cc (by rw [c.tb.ncl]; exact z3)
    refine ⟨a', G.cls cc, dx, gs, z1, z2, by rw [c.K]; exact k1, by rw [c.K]; exact k2 f hf, z4, ?_⟩
    exact p2 ι2 _ σ z5 z6 (((rs.mono e1).mono e2).mono z5)
theorem CxOk.sssub (c : CxOk T G o ct X W d) {a i : E} {q p : Pos} {e : E} (ha : PE X a.py (rdE G W (dE o a))) (hi : PE X i.py (rdE G W (dE o i))) (he : PE X e.py (rdE G W (dE o e))) :
    PS X (S.py (.ssub a i q e p)) (rdS G W (dS o (.ssub a i q e p))) := by
  refine ⟨fun pins s σ H D I hq => ?_⟩
  obtain ⟨ι, γ, M, env, rs, R, ps⟩ := hq
  simp only [dS] at ps
  refine wpAny_Assign_Subscript (thn (he.run pins s σ H (fun y H1 => rdE G W (dE o a) σ H1 fun z H2 => rdE G W (dE o i) σ H2 fun w H3 => ∃ ι γ M M' vo vi v, RM G ι γ M H3 ∧ RV ι γ H3 vo z ∧ RV ι γ H3 vi w ∧ RV ι γ H3 v y ∧ setAt M vo vi v = some M' ∧ ∀ H', Ext ι H3 ι H' → RM G ι γ M' H' → D.nx σ H') I ?_) fun r s1 ⟨v, H1, I1, rv, q1⟩ => thn (ha.run pins s1 σ H1 _ I1 q1) fun u s2 ⟨x, H2, I2, rx, q2⟩ => thn (hi.run pins s2 σ H2 _ I2 q2) fun iv s3 ⟨y, H3, I3, ry, q3⟩ => ?_) (E.swapsS e _ _ _ _ _)
  · refine ⟨ι, γ, M, env, rs, R, PostS.bind _ rs ps fun v M1 ι1 H1 e1 R1 p1 y ry => ?_⟩
    refine ⟨ι1, γ, M1, env, rs.mono e1, R1, PostS.bind _ (rs.mono e1) p1 fun w M2 ι2 H2 e2 R2 p2 z rz => ?_⟩
    refine ⟨ι2, γ, M2, env, (rs.mono e1).mono e2, R2, PostS.bind _ ((rs.mono e1).mono e2) p2 fun j M3 ι3 H3 e3 R3 p3 u ru => ?_⟩
    cases hs : setAt M3 w j v with
    | none => rw [hs] at p3; exact p3.elim
    | some M4 =>
      rw [hs] at p3
      exact ⟨ι3, γ, M3, M4, w, j, v, R3, rz.mono e3, ru, (ry.mono e2).mono e3, hs, fun H' e4 R4 => p3 ι3 H' σ e4 R4 ((((rs.mono e1).mono e2).mono e3).mono e4)⟩
  · obtain ⟨ι', γ', M', M'', vo, vi, v', R', r1, r2, r3, hs, k⟩ := q3
    exact thn (set_all c.units I3 rx ry rv R' r1 r2 r3 hs k) fun _ s4 ⟨H4, I4, q4⟩ => ⟨σ, H4, I4, q4⟩
def rAug (G : Glo) (sub : Bool) : TIp := fun x y H Q => ∃ ι γ M v w u, RM G ι γ M H ∧ RV ι γ H v x ∧ RV ι γ H w y ∧ augV sub v w = some u ∧ ∀ z, RV ι γ H u z → Q z H
theorem ip_aug (sub : Bool) : PIp X (augOp sub) (rAug G sub) := by
  intro pins s σ H x y v u Q I r1 r2 h
  obtain ⟨ι, γ, M, va, wa, ua, R, ra, rb, e, k⟩ := h
  unfold augV at e
  split at e
  · rename_i i j
    simp only [Option.some.injEq] at e
    subst e
    cases ra; cases rb
    cases sub with
    | true => exact ip_sub pins s σ H _ _ v u Q I r1 r2 ⟨i, j, rfl, rfl, k _ (.int _)⟩
    | false => exact ip_add pins s σ H _ _ v u Q I r1 r2 ⟨i, j, rfl, rfl, k _ (.int _)⟩
  · cases e
theorem CxOk.saug (c : CxOk T G o ct X W d) {i : Nat} {x : Str} {q p : Pos} {sub : Bool} {e : E} (h1 : ct.N[i]? = some x) (h2 : locB ct x = true) (he : PE X e.py (rdE G W (dE o e))) :
    PS X (S.py (.aug i x q sub e p)) (rdS G W (dS o (.aug i x q sub e p))) := by
  obtain ⟨l1, l2⟩ := loc_of c h2
  refine PS.imp (ps_aug (i := i) (by rw [c.N]; exact c.nd) (by rw [c.N]; exact h1) l1 he (ip_aug (G := G) sub) l2) fun D σ H q => ?_
  obtain ⟨ι, γ, M, env, rs, R, ps⟩ := q
  simp only [dS] at ps
  split at ps
  · rename_i v hv
    obtain ⟨x0, hx0, rx0⟩ := rs.at_ _ _ hv
    refine ⟨x0, hx0, ι, γ, M, env, rs, R, PostS.bind _ rs ps fun w M1 ι1 H1 e1 R1 p1 y ry => ?_⟩
    split at p1
    · rename_i u hu
      exact ⟨ι1, γ, M1, v, w, u, R1, rx0.mono e1, ry, hu, fun z rz => p1 ι1 H1 _ (Ext.refl _ _) R1 ((rs.mono e1).set rz)⟩
    · exact p1.elim
  · exact ps.elim
theorem CxOk.safld (c : CxOk T G o ct X W d) {a : E} {f : Nat} {x : Str} {q p : Pos} {sub : Bool} {e : E} (hf : f < T.nfl) (hx : T.fln f = x) (ha : PE X a.py (rdE G W (dE o a))) (he : PE X e.py (rdE G W (dE o e))) :
    PS X (S.py (.afld a f x q sub e p)) (rdS G W (dS o (.afld a f x q sub e p))) := by
  refine PS.imp (ps_fldaug (rd := rAug G sub) ha he (ip_aug (G := G) sub)) fun D σ H q => ?_
  obtain ⟨ι, γ, M, env, rs, R, ps⟩ := q
  simp only [dS] at ps
  refine ⟨ι, γ, M, env, rs, R, PostS.bind _ rs ps fun w M1 ι1 H1 e1 R1 p1 z rz => ?_⟩
  have hx' : x = G.fld f := by rw [← hx, c.tb.fnm2 f hf]
  subst hx'
  split at p1
  · rename_i v hv
    unfold fldOf at hv
    split at hv
    · rename_i n
      split at hv
      · rename_i cc fs hM
        cases rz with
        | ref hn =>
          rename_i a'
          obtain ⟨hc, dx, gs, h1, h2, h3, h4⟩ := R1.at_ n _ a' hM hn
          obtain ⟨xv, l1, l2⟩ := h4.lookF G.fldI f hv
          obtain ⟨k1, _, k2⟩ := c.tb.cls cc (by rw [c.tb.ncl]; exact hc)
          refine ⟨a', G.cls cc, dx, gs, xv, rfl, h1, by rw [c.K]; exact k1, by rw [c.K]; exact k2 f hf, l1, ?_⟩
          refine ⟨ι1, γ, M1, env, rs.mono e1, R1, PostS.bind _ (rs.mono e1) p1 fun w2 M2 ι2 H2 e2 R2 p2 y ry => ?_⟩
          split at p2
          · rename_i u hu
            refine ⟨ι2, γ, M2, v, w2, u, R2, l2.mono e2, ry, hu, fun z rz => ?_⟩
            split at p2
            · rename_i hcl
              cases hs : setFld M2 (.ref n) f u with
              | none => rw [hs] at p2; exact p2.elim
              | some M3 =>
              rw [hs] at p2
              obtain ⟨a2, c2, dx2, gs2, z1, z2, z3, z4, z5, z6⟩ := setFld_at R2 (.ref (e2.ix hn)) rz hs
              cases z1
              have fit : G.cls c2 = G.cls cc := by
                simp only [clsOf, hM] at hcl
                split at hcl
                · rename_i c3 fs3 hM3
                  simp only [Option.some.injEq] at hcl
                  subst hcl
                  obtain ⟨_, dx3, gs3, y1, _⟩ := R2.at_ n _ _ hM3 (e2.ix hn)
                  rw [z2] at y1
                  have y2 := Option.some.inj y1
                  injection y2
                · cases hcl
              rw [fit] at z2 z5 z6
              exact ⟨dx2, gs2, z2, z4, p2 ι2 _ σ z5 z6 (((rs.mono e1).mono e2).mono z5)⟩
            · exact p2.elim
          · exact p2.elim
      · cases hv
    · cases hv
  · exact p1.elim
end
end Dn
namespace Dn
open PySem PySem.Spec L2 PyProof.Rows
section
variable {T : Tb} {U : Tx} {G : Glo} {o : Orc} {ct : Ct} {X : Cx} {W : WX} {d : Nat}
theorem CxOk.sexpr (c : CxOk T G o ct X W d) {e : E} {p : Pos} (hc : e.isComp = false) (he : PE X e.py (rdE G W (dE o e))) : PS X (S.py (.expr e p)) (rdS G W (dS o (.expr e p))) := by
  refine PS.imp (ps_expr he (E.swaps e hc _ _ _)) fun D σ H q => ?_
  obtain ⟨ι, γ, M, env, rs, R, ps⟩ := q
  simp only [dS] at ps
  exact ⟨ι, γ, M, env, rs, R, PostS.bind _ rs ps fun v M1 ι1 H1 e1 R1 p1 y ry => p1 ι1 H1 _ (Ext.refl _ _) R1 (rs.mono e1)⟩
theorem CxOk.sret (c : CxOk T G o ct X W d) {e : E} {p : Pos} (he : PE X e.py (rdE G W (dE o e))) : PS X (S.py (.ret e p)) (rdS G W (dS o (.ret e p))) := by
  refine PS.imp (ps_ret he) fun D σ H q => ?_
  obtain ⟨ι, γ, M, env, rs, R, ps⟩ := q
  simp only [dS] at ps
  exact ⟨ι, γ, M, env, rs, R, PostS.bind _ rs ps fun v M1 ι1 H1 e1 R1 p1 y ry => p1 ι1 H1 y (Ext.refl _ _) R1 ry⟩
theorem CxOk.sif (c : CxOk T G o ct X W d) {e : E} {a b : Ss} {p : Pos} (he : PT X e.py (rdT G W (fun env M => (dE o e env M).bind asB))) (ha : PSs X a.py (rdS G W (dSs o a))) (hb : PSs X b.py (rdS G W (dSs o b))) :
    PS X (S.py (.ife e a b p)) (rdS G W (dS o (.ife e a b p))) := by
  refine PS.imp (ps_if he ha hb) fun D σ H q => ?_
  obtain ⟨ι, γ, M, env, rs, R, ps⟩ := q
  simp only [dS] at ps
  refine ⟨ι, γ, M, env, rs, R, PostS.bind _ rs ps fun k M1 ι1 H1 e1 R1 p1 => ?_⟩
  cases k with
  | true => exact ⟨ι1, γ, M1, env, rs.mono e1, R1, p1⟩
  | false => exact ⟨ι1, γ, M1, env, rs.mono e1, R1, p1⟩
theorem CxOk.swhl (c : CxOk T G o ct X W d) {e : E} {b : Ss} {p : Pos} (he : PT X e.py (rdT G W (fun env M => (dE o e env M).bind asB))) (hb : PSs X b.py (rdS G W (dSs o b))) :
    PS X (S.py (.whl e b p)) (rdS G W (dS o (.whl e b p))) := by
  refine PS.imp (ps_while c.po he hb) fun D σ H q => ?_
  obtain ⟨ι, γ, M, env, rs, R, ps⟩ := q
  simp only [dS] at ps
  refine ⟨fun k σ H => rdS G W (whileL (fun env M => (dE o e env M).bind asB) (fun env M => dSs o b env M) k) D σ H, ⟨fuelW, ι, γ, M, env, rs, R, ps⟩, ?_⟩
  rintro k σ1 H1 ⟨ι1, γ1, M1, env1, rs1, R1, p1⟩
  cases k with
  | zero => exact p1.elim
  | succ k =>
    unfold whileL at p1
    refine ⟨ι1, γ1, M1, env1, rs1, R1, PostS.bind _ rs1 p1 fun z M2 ι2 H2 e2 R2 p2 => ?_⟩
    cases z with
    | false =>
      rw [if_neg Bool.false_ne_true] at p2 ⊢
      exact p2 ι2 H2 σ1 (Ext.refl _ _) R2 (rs1.mono e2)
    | true =>
      rw [if_pos rfl] at p2 ⊢
      refine ⟨_, fun σ' H' h => ⟨k, Nat.lt_succ_self k, h⟩, ι2, γ1, M2, env1, rs1.mono e2, R2, ?_⟩
      split at p2
      · rename_i env' M' hr
        rw [hr]
        exact fun ι3 H3 σ3 e3 R3 rs3 => ⟨ι3, γ1, M', env', rs3, R3, p2.shift e3⟩
      · rename_i env' M' hr
        rw [hr]
        exact fun ι3 H3 σ3 e3 R3 rs3 => ⟨ι3, γ1, M', env', rs3, R3, p2.shift e3⟩
      · rename_i env' M' hr
        rw [hr]
        exact p2
      · rename_i v M' hr
        rw [hr]
        exact p2
      · rename_i cc v env' M' hr
        rw [hr]
        exact p2
      · exact p2.elim
theorem CxOk.sfor (c : CxOk T G o ct X W d) {tg : Tg} {it : It'} {b : Ss} {p : Pos} (ht : wfTg ct tg = true) (hi : PI X tg.py it.py (rdI G W (dI o it))) (hb : PSs X b.py (rdS G W (dSs o b))) :
    PS X (S.py (.for_ tg it b p)) (rdS G W (dS o (.for_ tg it b p))) := by
  refine PS.imp (ps_for c.po c.calm hi (sTg c tg ht) hb (It'.folded it _)) fun D σ H q => ?_
  obtain ⟨ι, γ, M, env, rs, R, ps⟩ := q
  simp only [dS] at ps
  refine ⟨ι, γ, M, env, rs, R, PostS.bind _ rs ps fun t M1 ι1 H1 e1 R1 p1 J hJ => ?_⟩
  refine ⟨fun i k σ H => ∃ ι M env, Ext ι1 H1 ι H ∧ RM G ι γ M H ∧ RS ι γ H env σ ∧ PostS G W ι γ H D (forL t (tgSet tg) (fun env M => dSs o b env M) k i env M), ⟨fuelW, ι1, M1, env, Ext.refl _ _, R1, rs.mono e1, p1⟩, ?_⟩
  rintro i k σ2 H2 ⟨ι2, M2, env2, e2, R2, rs2, p2⟩
  cases k with
  | zero => exact p2.elim
  | succ k =>
    unfold forL at p2
    split at p2
    · exact p2.elim
    · rename_i hat
      exact .inl ⟨hJ.stop ι2 γ M2 H2 i e2 (Gr.refl _ _) R2 hat, p2 ι2 H2 σ2 (Ext.refl _ _) R2 rs2⟩
    · rename_i v hat
      obtain ⟨hgo, hyl⟩ := hJ.go ι2 γ M2 H2 i v e2 (Gr.refl _ _) R2 hat
      split at p2
      · exact p2.elim
      · rename_i env3 hset
        refine .inr ⟨hgo, _, fun σ' H' h => ⟨k, Nat.lt_succ_self k, h⟩, fun x H3 hy => ?_⟩
        obtain ⟨e3, R3, rv⟩ := hyl x H3 hy
        refine ⟨ι2, γ, M2, v, env2, env3, rs2.mono e3, R3, rv, hset, fun σ3 rs3 _ => ⟨ι2, γ, M2, env3, rs3, R3, ?_⟩⟩
        split at p2
        · rename_i env' M' hr
          rw [hr]
          exact fun ι4 H4 σ4 e4 R4 rs4 => ⟨ι4, M', env', (e2.trans e3).trans e4, R4, rs4, (p2.shift e3).shift e4⟩
        · rename_i env' M' hr
          rw [hr]
          exact fun ι4 H4 σ4 e4 R4 rs4 => ⟨ι4, M', env', (e2.trans e3).trans e4, R4, rs4, (p2.shift e3).shift e4⟩
        · rename_i env' M' hr
          rw [hr]
          exact PostS.shift (r := .nx env' M') e3 p2
        · rename_i v M' hr
          rw [hr]
          exact PostS.shift (r := .rt v M') e3 p2
        · rename_i cc v env' M' hr
          rw [hr]
          exact PostS.shift (r := .exc cc v env' M') e3 p2
        · exact p2.elim
theorem CxS.srse (c : CxS T U G o ct X W d) {cc f : Nat} {x : Str} {q p2 p : Pos} {e : E} (hw : wfS T U ct (.rse cc f x q e p2 p) = true) (he : PE X e.py (rdE G W (dE o e))) : PS X (S.py (.rse cc f x q e p2 p)) (rdS G W (dS o (.rse cc f x q e p2 p))) := by
  simp only [wfS, Bool.and_eq_true, decide_eq_true_eq] at hw
  obtain ⟨⟨⟨w1, w2⟩, w3⟩, _⟩ := hw
  obtain ⟨fI, fd, ps', k, ex, hk, F⟩ := c.exs cc x w3
  obtain ⟨q1, q2, _⟩ := plain_d w2
  refine PS.imp (ps_raise c.calm c.tk (pmk_spX (p := q) (pos := p2) c.K ex F c.room hk (gl_of (by rw [c.sc]; exact w1)) he (fun σ H Q Q' f h => rdE.imp h f) q1 (E.star e [] _))) fun D σ H q => ?_
  obtain ⟨ι, γ, M, env, rs, R, ps⟩ := q
  simp only [dS] at ps
  refine ⟨ι, γ, M, env, rs, R, PostS.bind _ rs ps fun v M1 ι1 H1 e1 R1 p1 y ry dx hd => ?_⟩
  exact p1 ι1 _ σ dx y (Ext.val hd) (R1.val hd) ((rs.mono e1).mono (Ext.val hd)) (ry.mono (Ext.val hd)) upd_same
/-! ### suites -/
theorem RM.notxd {ι γ : List Addr} {M : Mem} {H : Hp} (R : RM G ι γ M H) {a : Addr} {fs : List (Str × V)} (h : H a = some (.xd fs)) : a ∉ ι := fun q => by
  obtain ⟨n, e⟩ := List.mem_iff_getElem?.mp q
  have hl : n < M.length := by rw [← R.len]; exact (List.getElem?_eq_some_iff.mp e).1
  have z := R.at_ n M[n] a (List.getElem?_eq_getElem hl) e
  cases hm : M[n] with
  | lst xs => rw [hm] at z; obtain ⟨_, z, _⟩ := z; rw [h] at z; cases z
  | dic xs => rw [hm] at z; obtain ⟨_, z, _⟩ := z; rw [h] at z; cases z
  | dit xs => rw [hm] at z; obtain ⟨_, z, _⟩ := z; rw [h] at z; cases z
  | ins c xs => rw [hm] at z; obtain ⟨_, _, _, z, _⟩ := z; rw [h] at z; cases z
structure SuF (U : Tx) (G : Glo) (n : Option (Nat × Str)) (fl : List (Nat × Str)) (a : Addr) (cls : Value) (dd : Option Addr) (ι γ : List Addr) (M : Mem) (c : Nat) (v : Va) (σ : L2.St) (H : Hp) : Prop where
  ec : cls = .ref (G.cls c)
  xd : ∃ d0 x, dd = some d0 ∧ H d0 = some (.xd [(G.fld (G.xfl c), x)]) ∧ RV ι γ H v x
  rm : RM G ι γ M H
  sl : ∀ i x, n = some (i, x) → σ[i]? = some (some (.ref a))
  fl : ∀ f ∈ fl, U.exf.lookup c = some f
theorem SuF.mono {n : Option (Nat × Str)} {fl : List (Nat × Str)} {a : Addr} {cls : Value} {dd : Option Addr} {ι γ : List Addr} {M : Mem} {c : Nat} {v : Va} {σ : L2.St} {H H' : Hp} (s : SuF U G n fl a cls dd ι γ M c v σ H) (e : Ext ι H ι H') (R : RM G ι γ M H') : SuF U G n fl a cls dd ι γ M c v σ H' :=
  ⟨s.ec, let ⟨d0, x, h1, h2, h3⟩ := s.xd; ⟨d0, x, h1, e.keep _ _ (s.rm.notxd h2) h2, h3.mono e⟩, R, s.sl, s.fl⟩
theorem SuF.sub {n : Option (Nat × Str)} {fl fl' : List (Nat × Str)} {a : Addr} {cls : Value} {dd : Option Addr} {ι γ : List Addr} {M : Mem} {c : Nat} {v : Va} {σ : L2.St} {H : Hp} (s : SuF U G n fl a cls dd ι γ M c v σ H) (h : ∀ f ∈ fl', f ∈ fl) : SuF U G n fl' a cls dd ι γ M c v σ H :=
  ⟨s.ec, s.xd, s.rm, s.sl, fun f hf => s.fl f (h f hf)⟩
def rdHE (U : Tx) (G : Glo) (n : Option (Nat × Str)) (a : Addr) (cls : Value) (dd : Option Addr) (e : HE) : TE := fun σ H Q => ∃ ι γ M c v, SuF U G n e.flds a cls dd ι γ M c v σ H ∧ ∀ H' y, Ext ι H ι H' → RM G ι γ M H' → RV ι γ H' (dHE v e) y → Q y H'
def rdHEs (U : Tx) (G : Glo) (n : Option (Nat × Str)) (a : Addr) (cls : Value) (dd : Option Addr) (es : HEs) : TA := fun σ H Q => ∃ ι γ M c v, SuF U G n es.flds a cls dd ι γ M c v σ H ∧ ∀ H' ys, Ext ι H ι H' → RM G ι γ M H' → RVs ι γ H' (dHEs v es) ys → Q ys H'
theorem HE.star (e : HE) (r : List Expr) (env : PySem.Env) : starEach (HE.py e :: r) env = (false, eval (HE.py e) env) :: starEach r env := by
  cases e <;> rfl
theorem HEs.len : ∀ (v : Va) (es : HEs), (dHEs v es).length = es.py.length
  | v, .nil => rfl
  | v, .cons e es => by
    show (dHE v e :: dHEs v es).length = (HE.py e :: HEs.py es).length
    rw [List.length_cons, List.length_cons, HEs.len v es]
mutual
theorem sHE (c : CxS T U G o ct X W d) (n : Option (Nat × Str)) {a : Addr} {oe : Obj} {cls : Value} {dd : Option Addr} {pn : List (Addr × Obj)} (hz : Zc cls dd oe) (hf : ∃ vs, oe.data = .fields vs) :
    ∀ e : HE, wfHE ct n e = true → PE (X.suite a ((a, oe) :: pn)) e.py (rdHE U G n a cls dd e)
  | .non k p, _ => PE.imp pe_non fun σ H Q ⟨ι, γ, M, cc, v, s, q⟩ => q H _ (Ext.refl _ _) s.rm .non
  | .bl b k p, _ => PE.imp pe_bl fun σ H Q ⟨ι, γ, M, cc, v, s, q⟩ => q H _ (Ext.refl _ _) s.rm (.bl b)
  | .int i k p, _ => PE.imp pe_int fun σ H Q ⟨ι, γ, M, cc, v, s, q⟩ => q H _ (Ext.refl _ _) s.rm (.int i)
  | .str x k p, _ => PE.imp pe_str fun σ H Q ⟨ι, γ, M, cc, v, s, q⟩ => q H _ (Ext.refl _ _) s.rm (.str x)
  | .err i x q f nm p, h => by
    simp only [wfHE, Bool.and_eq_true, decide_eq_true_eq] at h
    obtain ⟨⟨⟨h0, h1⟩, h2⟩, h3⟩ := h
    obtain ⟨p1, p2, _⟩ := plain_d h3
    have pv : PE (X.suite a ((a, oe) :: pn)) (.Name x q) (tVar i) := pe_var (X := X.suite a ((a, oe) :: pn)) (i := i) (by show X.N[i]? = some x; rw [c.N]; exact h1) (by show Vis X.env.scope x; rw [c.sc]; exact vis_of h2) p1 p2
    refine ⟨fun pins s σ H Q I hq => ?_⟩
    obtain ⟨ι, γ, M, cc, v, su, k⟩ := hq
    have hex := su.fl (f, nm) (by simp [HE.flds])
    obtain ⟨x1, x2, x3, x4⟩ := c.exf cc f nm hex
    obtain ⟨d0, xv, y1, y2, y3⟩ := su.xd
    have base := pe_xf (X := X) (pos := p) (by rw [c.K]; exact x3) (by rw [c.K]; exact x4) hz hf pv rfl
    refine base.run pins s σ H Q I ⟨.ref a, su.sl i x h0, rfl, su.ec, d0, _, xv, y1, y2, ?_, k H xv (Ext.refl _ _) su.rm y3⟩
    rw [x1, x2]
    simp [List.lookup]
  | .tup es k p, h => by
    simp only [wfHE, Bool.and_eq_true, decide_eq_true_eq] at h
    refine PE.imp (pe_tup (sHEs c n hz hf es h.1)) fun σ H Q hq => ?_
    obtain ⟨ι, γ, M, cc, v, su, k⟩ := hq
    refine ⟨ι, γ, M, cc, v, su, fun H' ys e R rv => ⟨by rw [← rv.length, HEs.len]; exact h.2, fun p hp => ?_⟩⟩
    exact k _ _ (e.trans (Ext.val hp)) (R.val hp) (.tup (R.fresh hp) upd_same (rv.mono (Ext.val hp)))
theorem sHEs (c : CxS T U G o ct X W d) (n : Option (Nat × Str)) {a : Addr} {oe : Obj} {cls : Value} {dd : Option Addr} {pn : List (Addr × Obj)} (hz : Zc cls dd oe) (hf : ∃ vs, oe.data = .fields vs) :
    ∀ es : HEs, wfHEs ct n es = true → PA (X.suite a ((a, oe) :: pn)) es.py (rdHEs U G n a cls dd es)
  | .nil, _ => PA.imp pa_nil fun σ H Q ⟨ι, γ, M, cc, v, s, q⟩ => q H [] (Ext.refl _ _) s.rm .nil
  | .cons e es, h => by
    simp only [wfHEs, Bool.and_eq_true] at h
    refine PA.imp (pa_cons (sHE c n hz hf e h.1) (sHEs c n hz hf es h.2) (HE.star e _ _)) fun σ H Q hq => ?_
    obtain ⟨ι, γ, M, cc, v, su, k⟩ := hq
    refine ⟨ι, γ, M, cc, v, su.sub fun f hf => by simp [HEs.flds, hf], fun H1 y e1 R1 ry => ?_⟩
    refine ⟨ι, γ, M, cc, v, (su.mono e1 R1).sub fun f hf => by simp [HEs.flds, hf], fun H2 ys e2 R2 rys => ?_⟩
    exact k H2 _ (e1.trans e2) R2 (.cons (ry.mono e2) rys)
end
def tsOf (U : Tx) (G : Glo) (h : Hd) : TSu := fun a cls dd D σ H => ∃ ι γ M c v env, SuF U G h.n h.su.ex.flds a cls dd ι γ M c v σ H ∧ RS ι γ H env σ ∧ PostS G (fun _ _ _ _ => False) ι γ H D (dHS v env M h.su)
theorem CxS.suite (c : CxS T U G o ct X W d) {h : Hd} (hw : wfHS ct h.n h.su = true) (a : Addr) (oe : Obj) (cls : Value) (dd : Option Addr) (pn : List (Addr × Obj)) (hz : Zc cls dd oe) (hf : ∃ vs, oe.data = .fields vs) :
    PSs (X.suite a ((a, oe) :: pn)) [h.su.py] (tsOf U G h a cls dd) := by
  unfold tsOf
  generalize h.n = n at hw ⊢
  generalize h.su = su at hw ⊢
  cases su with
  | ret e p =>
    refine PSs.imp (pss_one (ps_ret (sHE c n hz hf e (by simpa only [wfHS] using hw)))) fun D σ H hq => ?_
    obtain ⟨ι, γ, M, cc, v, env, su, rs, ps⟩ := hq
    exact ⟨ι, γ, M, cc, v, su, fun H' y e1 R1 ry => ps ι H' y e1 R1 ry⟩
  | set i x q e p =>
    simp only [wfHS, Bool.and_eq_true, decide_eq_true_eq] at hw
    obtain ⟨⟨⟨w1, w2⟩, w3⟩, w4⟩ := hw
    obtain ⟨l1, l2⟩ := loc_of c.toCxOk w3
    refine PSs.imp (pss_one (ps_set (X := X.suite a ((a, oe) :: pn)) (i := i) (by show X.N.Nodup; rw [c.N]; exact c.nd) (by show X.N[i]? = some x; rw [c.N]; exact w2) l1 (sHE c n hz hf e w1) (by cases e <;> rfl) l2)) fun D σ H hq => ?_
    obtain ⟨ι, γ, M, cc, v, env, su, rs, ps⟩ := hq
    exact ⟨ι, γ, M, cc, v, su, fun H' y e1 R1 ry => ps ι H' _ e1 R1 ((rs.mono e1).set ry)⟩
theorem PostS.hide {ι γ : List Addr} {H : Hp} {D : Ends} {n : Option (Nat × Str)} {W' : WX} {v : Va} {env : Env} {M : Mem} {su : HS} (h : PostS G W ι γ H D ((dHS v env M su).hide n)) : PostS G W' ι γ H (endsN (n.map (·.1)) D) (dHS v env M su) := by
  cases su with
  | ret e p =>
    cases n with
    | none => exact h
    | some q => exact h
  | set i x q e p =>
    cases n with
    | none => exact h
    | some nq =>
      obtain ⟨j, y⟩ := nq
      exact fun ι' H' σ' e1 R1 rs1 => h ι' H' _ e1 R1 (rs1.clear j)
theorem RS.over {ι γ : List Addr} {H : Hp} {env : Env} {σ : L2.St} (r : RS ι γ H env σ) (i : Nat) (u : Option V) : RS ι γ H (env.set i none) (σ.set i u) := by
  refine ⟨by rw [List.length_set, List.length_set, r.len], fun j w hj => ?_⟩
  by_cases e : i = j
  · subst e
    by_cases hl : i < env.length
    · rw [List.getElem?_set_self hl] at hj; cases hj
    · rw [List.getElem?_eq_none (by simpa using hl)] at hj; cases hj
  · rw [List.getElem?_set_ne e] at hj ⊢
    exact r.at_ j w hj
theorem RS.slotN {ι γ : List Addr} {H : Hp} {env : Env} {σ : L2.St} (r : RS ι γ H env σ) (n : Option (Nat × Str)) (a : Addr) : RS ι γ H (hideE n env) (Dn.slotN (n.map (·.1)) a σ) := by
  cases n with
  | none => exact r
  | some q => exact r.over q.1 _
theorem mem_lookup {κ β : Type} [BEq κ] [LawfulBEq κ] : ∀ {l : List (κ × β)} {k : κ} {b : β}, l.lookup k = some b → (k, b) ∈ l
  | [], _, _, h => by cases h
  | (a, v) :: l, k, b, h => by
    rw [List.lookup_cons] at h
    split at h
    · rename_i e
      have e' := eq_of_beq e
      subst e'
      cases h
      exact List.mem_cons_self
    · exact List.mem_cons_of_mem _ (mem_lookup h)
theorem CxS.hds (c : CxS T U G o ct X W d) : ∀ hs : List Hd, hs.all (wfHd U ct) = true → ∃ l, HdMix X (hs.map Hd.py) l ∧
    ∀ D cc v env M ι γ H, PostS G W ι γ H D (dHds cc v env M hs) → ∀ ι' H' σ' d0 x, Ext ι H ι' H' → RM G ι' γ M H' → RS ι' γ H' env σ' → RV ι' γ H' v x → H' d0 = some (.xd [(G.fld (G.xfl cc), x)]) →
      wMix X.K W D l (.ref (G.cls cc)) (some d0) σ' H'
  | [], _ => ⟨[], .nil, fun D cc v env M ι γ H ps ι' H' σ' d0 x e R rs rv hd => ps ι' H' σ' d0 x e R rs rv hd⟩
  | h :: hs, hw => by
    rw [List.all_cons, Bool.and_eq_true] at hw
    obtain ⟨l, hm, hq⟩ := CxS.hds c hs hw.2
    have w := hw.1
    simp only [wfHd, Bool.and_eq_true, decide_eq_true_eq] at w
    obtain ⟨⟨⟨⟨⟨w1, w2⟩, w3⟩, w4⟩, w5⟩, w6⟩ := w
    obtain ⟨val, hv, hc⟩ := c.hcl h.x h.cs w3
    obtain ⟨q1, q2, _⟩ := plain_d w2
    have names : Names X h.x val := ⟨gl_of (by rw [c.sc]; exact w1), q1, .inl hv⟩
    refine ⟨(val, h.n.map (·.1), tsOf U G h) :: l, ?_, fun D cc v env M ι γ H ps ι' H' σ' d0 x e R rs rv hd => ?_⟩
    · have sui := c.suite w5
      show HdMix X (Hd.py h :: hs.map Hd.py) _
      unfold Hd.py
      cases hn : h.n with
      | none => exact HdMix.plain (suite := []) names sui hm
      | some nq =>
        obtain ⟨j, y⟩ := nq
        rw [hn] at w4
        simp only [wfN, Bool.and_eq_true, decide_eq_true_eq] at w4
        exact HdMix.named (suite := []) names (by rw [c.N]; exact w4.1) (isLoc_of w4.2 c.toCxOk) sui hm
    · unfold dHds at ps
      split at ps
      · rename_i hlk
        refine ⟨true, by rw [c.K]; exact hc cc true hlk, fun _ a ha => ?_, fun z => by cases z⟩
        split at ps
        case isFalse => exact ps.elim
        rename_i hso
        refine ⟨ι', γ, M, cc, v, hideE h.n env, ⟨rfl, ⟨d0, x, rfl, hd, rv⟩, R, fun i y hn => ?_, fun f hf => w6 (cc, true) (mem_lookup hlk) rfl f hf⟩, rs.slotN h.n a, PostS.hide (ps.shift e)⟩
        rw [hn]
        rw [hn] at hso
        show (σ'.set i (some (.ref a)))[i]? = _
        rw [List.getElem?_set_self (by rw [← rs.len]; simpa [slotOk] using hso)]
      · rename_i hlk
        exact ⟨false, by rw [c.K]; exact hc cc false hlk, fun z => (by cases z), fun _ => hq D cc v env M ι γ H ps ι' H' σ' d0 x e R rs rv hd⟩
      · exact ps.elim
theorem CxS.stry (c : CxS T U G o ct X W d) {b : Ss} {h : Hd} {hs : List Hd} {p : Pos} (hw : wfS T U ct (.try_ b h hs p) = true) (hb : ∀ (W : WX) (X' : Cx), CxS T U G o ct X' W d → PSs X' b.py (rdS G W (dSs o b))) :
    PS X (S.py (.try_ b h hs p)) (rdS G W (dS o (.try_ b h hs p))) := by
  simp only [wfS, Bool.and_eq_true] at hw
  obtain ⟨l, hm, hq⟩ := c.hds (h :: hs) (by rw [List.all_cons, hw.1.2, hw.2]; rfl)
  refine PS.imp (ps_try_mix (tb := fun W => rdS G W (dSs o b)) c.stk c.frm (by rw [c.N]; exact c.nd) c.tk (fun W' pn xe tk po => hb W' _ ⟨⟨c.N, c.sc, c.fn, c.nd, c.calm, c.K, tk, po, c.room, c.tb, c.fns, c.ini⟩, c.stk, c.frm, c.exs, c.hcl, c.exf⟩) hm) fun D σ H q => ?_
  obtain ⟨ι, γ, M, env, rs, R, ps⟩ := q
  simp only [dS] at ps
  refine ⟨ι, γ, M, env, rs, R, ?_⟩
  split at ps
  · rename_i cc v env' M' hr
    rw [hr]
    exact fun ι' H' σ' d0 x e1 R1 rs1 rv hd => hq D cc v env' M' ι γ H ps ι' H' σ' d0 x e1 R1 rs1 rv hd
  · rename_i r hne
    cases hr : dSs o b env M with
    | exc cc v env' M' => exact absurd hr (hne cc v env' M')
    | nx env' M' => rw [hr] at ps; exact ps
    | rt v M' => rw [hr] at ps; exact ps
    | bk env' M' => rw [hr] at ps; exact ps
    | ct env' M' => rw [hr] at ps; exact ps
    | bad => rw [hr] at ps; exact ps
/-! ### all statements -/
def SS (T : Tb) (U : Tx) (G : Glo) (o : Orc) (d : Nat) (s : S) : Prop := ∀ (ct : Ct) (X : Cx) (W : WX), wfS T U ct s = true → CxS T U G o ct X W d → PS X (S.py s) (rdS G W (dS o s))
def SSs (T : Tb) (U : Tx) (G : Glo) (o : Orc) (d : Nat) (s : Ss) : Prop := ∀ (ct : Ct) (X : Cx) (W : WX), wfSs T U ct s = true → CxS T U G o ct X W d → PSs X (Ss.py s) (rdS G W (dSs o s))
mutual
theorem sS : ∀ s : S, SS T U G o d s
  | .ats ts k q e p => fun ct X W h c => by
    have h' := h
    simp only [wfS, Bool.and_eq_true] at h'
    obtain ⟨⟨h1, h2⟩, h3⟩ := h'
    exact c.toCxOk.sats h2 h3 (sE e ct X W h1 c.toCxOk).1
  | .delf a lo p2 q p => fun ct X W h c => by
    have h' := h
    simp only [wfS, Bool.and_eq_true] at h'
    exact c.toCxOk.sdelf (sE a ct X W h'.1 c.toCxOk).1 (sE lo ct X W h'.2 c.toCxOk).1
  | .set i x q e p => fun ct X W h c => by
    have h' := h
    simp only [wfS, Bool.and_eq_true, decide_eq_true_eq] at h'
    obtain ⟨⟨⟨h1, h2⟩, h3⟩, h4⟩ := h'
    cases hc : e.isComp with
    | false => exact c.toCxOk.sset h1 h2 hc (sE e ct X W h3 c.toCxOk).1
    | true =>
      cases e with
      | comp m elt tg it ifs sc own p' =>
        simp only [compSet, Bool.or_eq_true] at h4
        rcases h4 with h4 | h4
        · exact c.toCxOk.ssetC h1 h4 h3
        · exact c.toCxOk.ssetX h1 h2 h4 (sE _ ct X W h3 c.toCxOk).1
      | dcm tu kx vx tg it ifs sc own p' =>
        simp only [compSet, Bool.or_eq_true] at h4
        rcases h4 with h4 | h4
        · exact c.toCxOk.ssetD h1 h4 h3
        · exact c.toCxOk.ssetX h1 h2 h4 (sE _ ct X W h3 c.toCxOk).1
      | _ => cases hc
  | .unp ts k q e p => fun ct X W h c => by
    have h' := h
    simp only [wfS, Bool.and_eq_true, Bool.not_eq_true'] at h'
    obtain ⟨⟨⟨h1, h2⟩, h3⟩, h4⟩ := h'
    exact c.toCxOk.sunp h1 h3 h4 (sE e ct X W h2 c.toCxOk).1
  | .par i j x y px py pt kt a b k2 p2 p => fun ct X W h c => by
    have h' := h
    simp only [wfS, Bool.and_eq_true] at h'
    obtain ⟨⟨⟨⟨⟨_, h1⟩, h2⟩, _⟩, _⟩, _⟩ := h'
    exact c.toCxOk.spar h (sEs (.cons a (.cons b .nil)) ct X W (by simp only [wfEs, h1, h2, Bool.and_self]) c.toCxOk).1
  | .par3 i j l x y z px py pz pt kt a b e k2 p2 p => fun ct X W h c => by
    have h' := h
    simp only [wfS, Bool.and_eq_true] at h'
    obtain ⟨⟨⟨⟨⟨⟨_, h1⟩, h2⟩, h3⟩, _⟩, _⟩, _⟩ := h'
    exact c.toCxOk.spar3 h (sEs (.cons a (.cons b (.cons e .nil))) ct X W (by simp only [wfEs, h1, h2, h3, Bool.and_self]) c.toCxOk).1
  | .sfld a f x q e p => fun ct X W h c => by
    have h' := h
    simp only [wfS, Bool.and_eq_true, decide_eq_true_eq] at h'
    obtain ⟨⟨⟨h1, h2⟩, h4⟩, h5⟩ := h'
    exact c.toCxOk.ssfld h4 h5 (sE a ct X W h1 c.toCxOk).1 (sE e ct X W h2 c.toCxOk).1
  | .ssub a i q e p => fun ct X W h c => by
    have h' := h
    simp only [wfS, Bool.and_eq_true] at h'
    obtain ⟨⟨h1, h2⟩, h3⟩ := h'
    exact c.toCxOk.sssub (sE a ct X W h1 c.toCxOk).1 (sE i ct X W h2 c.toCxOk).1 (sE e ct X W h3 c.toCxOk).1
  | .aug i x q sub e p => fun ct X W h c => by
    have h' := h
    simp only [wfS, Bool.and_eq_true, decide_eq_true_eq] at h'
    obtain ⟨⟨h1, h2⟩, h3⟩ := h'
    exact c.toCxOk.saug h1 h2 (sE e ct X W h3 c.toCxOk).1
  | .afld a f x q sub e p => fun ct X W h c => by
    have h' := h
    simp only [wfS, Bool.and_eq_true, decide_eq_true_eq] at h'
    obtain ⟨⟨⟨h1, h2⟩, h3⟩, h4⟩ := h'
    exact c.toCxOk.safld h3 h4 (sE a ct X W h1 c.toCxOk).1 (sE e ct X W h2 c.toCxOk).1
  | .expr e p => fun ct X W h c => by
    have h' := h
    simp only [wfS, Bool.and_eq_true, Bool.not_eq_true'] at h'
    exact c.toCxOk.sexpr h'.2 (sE e ct X W h'.1 c.toCxOk).1
  | .ret e p => fun ct X W h c => c.toCxOk.sret (sE e ct X W (by simpa only [wfS] using h) c.toCxOk).1
  | .retN p => fun ct X W h c => PS.imp ps_retN fun D σ H ⟨ι, γ, M, env, rs, R, ps⟩ => by
    simp only [dS] at ps
    exact ps ι H _ (Ext.refl _ _) R .non
  | .pass p => fun ct X W h c => PS.imp ps_pass fun D σ H ⟨ι, γ, M, env, rs, R, ps⟩ => by
    simp only [dS] at ps
    exact ps ι H _ (Ext.refl _ _) R rs
  | .brk p => fun ct X W h c => PS.imp ps_break fun D σ H ⟨ι, γ, M, env, rs, R, ps⟩ => by
    simp only [dS] at ps
    exact ps ι H _ (Ext.refl _ _) R rs
  | .cont p => fun ct X W h c => PS.imp ps_continue fun D σ H ⟨ι, γ, M, env, rs, R, ps⟩ => by
    simp only [dS] at ps
    exact ps ι H _ (Ext.refl _ _) R rs
  | .ife e a b p => fun ct X W h c => by
    have h' := h
    simp only [wfS, Bool.and_eq_true] at h'
    obtain ⟨⟨⟨h1, h2⟩, h3⟩, h4⟩ := h'
    exact c.toCxOk.sif ((sE e ct X W h1 c.toCxOk).2 h2) (sSs a ct X W h3 c) (sSs b ct X W h4 c)
  | .whl e b p => fun ct X W h c => by
    have h' := h
    simp only [wfS, Bool.and_eq_true] at h'
    obtain ⟨⟨h1, h2⟩, h3⟩ := h'
    exact c.toCxOk.swhl ((sE e ct X W h1 c.toCxOk).2 h2) (sSs b ct X W h3 c)
  | .for_ tg it b p => fun ct X W h c => by
    have h' := h
    simp only [wfS, Bool.and_eq_true] at h'
    obtain ⟨⟨⟨h1, h2⟩, h3⟩, h4⟩ := h'
    exact c.toCxOk.sfor h1 (sI it ct X W tg h2 (fun z => by rw [z] at h3; simpa using h3) c.toCxOk) (sSs b ct X W h4 c)
  | .rse cc f x q e p2 p => fun ct X W h c => by
    have h' := h
    simp only [wfS, Bool.and_eq_true] at h'
    exact c.srse h (sE e ct X W h'.2 c.toCxOk).1
  | .try_ b h hs p => fun ct X W hw c => by
    have h' := hw
    simp only [wfS, Bool.and_eq_true] at h'
    exact c.stry hw fun W' X' c' => sSs b ct X' W' h'.1.1 c'
theorem sSs : ∀ s : Ss, SSs T U G o d s
  | .nil => fun ct X W h c => PSs.imp pss_nil fun D σ H ⟨ι, γ, M, env, rs, R, ps⟩ => by
    simp only [dSs] at ps
    exact ps ι H _ (Ext.refl _ _) R rs
  | .cons s ss => fun ct X W h c => by
    have h' := h
    simp only [wfSs, Bool.and_eq_true] at h'
    refine PSs.imp (pss_cons (sS s ct X W h'.1 c) (sSs ss ct X W h'.2 c)) fun D σ H hq => ?_
    obtain ⟨ι, γ, M, env, rs, R, ps⟩ := hq
    simp only [dSs] at ps
    refine ⟨ι, γ, M, env, rs, R, ?_⟩
    split at ps
    · rename_i env' M' hr
      rw [hr]
      exact fun ι1 H1 σ1 e1 R1 rs1 => ⟨ι1, γ, M', env', rs1, R1, ps.shift e1⟩
    · rename_i r hne
      cases hr : dS o s env M with
      | nx env' M' => exact absurd hr (hne env' M')
      | exc cc v env' M' => rw [hr] at ps; exact ps
      | rt v M' => rw [hr] at ps; exact ps
      | bk env' M' => rw [hr] at ps; exact ps
      | ct env' M' => rw [hr] at ps; exact ps
      | bad => rw [hr] at ps; exact ps
end
end
end Dn
namespace Dn
open PySem PySem.Spec L2 PyProof.Rows
/-! ### defs -/
structure Fn where
  ps : List Str
  N : List Str
  body : Ss
def startE (N : List Str) (vs : List Va) : Env := vs.map some ++ List.replicate (N.length - vs.length) none
def Rs.toR : Rs → Res Va
  | .nx _ M => .ok .non M
  | .rt v M => .ok v M
  | .exc c v _ M => .exc c v M
  | _ => .bad
def runFn (fs : Nat → Fn) (o : Orc) (f : Nat) (vs : List Va) (M : Mem) : Res Va :=
  if vs.length = (fs f).ps.length then (dSs o (fs f).body (startE (fs f).N vs) M).toR else .bad
def orcN (fs : Nat → Fn) : Nat → Orc
  | 0 => ⟨fun _ _ _ => .bad, fun _ _ _ => .bad⟩
  | n + 1 => ⟨runFn fs (orcN fs n), (orcN fs n).cl⟩
structure PrOk (T : Tb) (U : Tx) (G : Glo) (fs : Nat → Fn) (P : Program) (w : World) (mg : Str → Option Value) (base : Heap) : Prop where
  tb : TbOk T G mg
  fns : ∀ f, f < T.nfn → ∃ x qual st, Fun G.K x qual st (G.fad f) (G.fdt f) ∧ defBody st = (fs f).body.py ∧ FnScope (fs f).N (T.fps f) (defScope st) ∧ T.fps f = (fs f).ps ∧ wfSs T U ⟨(fs f).N, defScope st, fun _ => true⟩ (fs f).body = true
  exs : ∀ c x, (c, x) ∈ U.exs → ∃ fI fd ps, ExS G mg c x fI fd ps ∧ FnOk P w G.K mg base (L2.CX P w) 1 fI fd ps (spX (G.cls c) (G.fld (G.xfl c)))
  hcl : ∀ x cs, U.hcl.lookup x = some cs → ∃ v, mg x = some v ∧ ∀ c b, cs.lookup c = some b → PySem.W.exmOne G.K (.ref (G.cls c)) v = some b
  exf : ∀ c f n, U.exf.lookup c = some (f, n) → G.xfl c = f ∧ G.fld f = n ∧ XfC G.K (G.cls c) ∧ PySem.W.findIn G.K (.ref (G.cls c)) n = some none
section
variable {T : Tb} {U : Tx} {G : Glo} {fs : Nat → Fn} {P : Program} {w : World} {mg : Str → Option Value} {base : Heap}
theorem RVs.start {ι γ : List Addr} {H : Hp} {vs : List Va} {xs : List V} (r : RVs ι γ H vs xs) (N : List Str) : RS ι γ H (startE N vs) (start N xs) := by
  have hl := r.length
  refine ⟨by simp [startE, L2.start, hl], fun i v h => ?_⟩
  unfold startE at h
  by_cases hi : i < vs.length
  · rw [List.getElem?_append_left (by simpa using hi), List.getElem?_map] at h
    obtain ⟨v', h1, h2⟩ := Option.map_eq_some_iff.mp h
    cases h2
    obtain ⟨x, e1, e2⟩ := r.get h1
    refine ⟨x, ?_, e2⟩
    unfold L2.start
    rw [List.getElem?_append_left (by rw [List.length_map, ← hl]; exact hi), List.getElem?_map, e1]
    rfl
  · rw [List.getElem?_append_right (by simpa using Nat.le_of_not_lt hi), List.getElem?_replicate] at h
    split at h <;> cases h
theorem bad_ok {f : Nat} {k : Nat} : FnOk P w G.K mg base (L2.CX P w) k (G.fad f) (G.fdt f) (T.fps f) (spO G (fun _ _ => .bad)) :=
  ⟨fun xs H Q E h => (by obtain ⟨_, _, _, _, _, _, z⟩ := h; exact z.elim), fun A outer s H args us vs Q E hr he hb hv h => by obtain ⟨_, _, _, _, _, _, z⟩ := h; exact z.elim⟩
theorem fn_ok (pr : PrOk T U G fs P w mg base) : ∀ n, (∀ f, f < T.nfn → FnOk P w G.K mg base (L2.CX P w) (n + 2) (G.fad f) (G.fdt f) (T.fps f) (spO G ((orcN fs n).cl f))) ∧
    (∀ f, f < T.nfn → ∃ d', d' + 1 ≤ n + 2 ∧ FnOk P w G.K mg base (L2.CX P w) d' (G.fad f) (G.fdt f) (T.fps f) (spO G ((orcN fs n).ini f)))
  | 0 => ⟨fun f hf => bad_ok, fun f hf => ⟨1, by omega, bad_ok⟩⟩
  | n + 1 => by
    obtain ⟨h1, h2⟩ := fn_ok pr n
    refine ⟨fun f hf => ?_, fun f hf => ⟨n + 2, by omega, h1 f hf⟩⟩
    obtain ⟨x, qual, st, F, hb, S, hp, wf⟩ := pr.fns f hf
    refine Fun.okX F S (fun xs H Q E h => ?_) fun cdv A outer s H xs Q E hr h => ?_
    · obtain ⟨ι, γ, M, vs, rv, R, ps⟩ := h
      rw [← rv.length, hp]
      simp only [orcN, runFn] at ps
      split at ps
      · assumption
      · exact ps.elim
    · obtain ⟨ι, γ, M, vs, rv, R, ps⟩ := h
      simp only [orcN, runFn] at ps
      split at ps
      · rw [hb]
        have cx : CxS T U G (orcN fs n) ⟨(fs f).N, defScope st, fun _ => true⟩ (cxOf (L2.CX P w) P w G.K mg base (fs f).N qual (defScope st) (G.fad f) cdv A outer s H E) (fun cls d _ H => E cls d H) (n + 2) :=
          { N := rfl, sc := rfl, fn := rfl, nd := S.nd, calm := rfl, K := rfl, tk := takes_of rfl rfl rfl (E₁ := fun e' s'' => L2.CX P w outer H s E e' s'') rfl,
            po := passes_of (K := fun e s'' => L2.CX P w outer H s E e s'') (E₁ := fun e' s'' => L2.CX P w outer H s E e' s'') rfl,
            room := hr, tb := pr.tb, fns := h1, ini := h2, stk := rfl, frm := rfl, hcl := pr.hcl, exf := pr.exf,
            exs := fun c x hx => by
              obtain ⟨fI, fd, ps', e1, e2⟩ := pr.exs c x hx
              exact ⟨fI, fd, ps', 1, e1, by omega, e2⟩ }
        refine ⟨_, sSs (fs f).body _ _ _ wf cx, ι, γ, M, _, rv.start _, R, ?_⟩
        cases hr' : dSs (orcN fs n) (fs f).body (startE (fs f).N vs) M with
        | nx env M' => rw [hr'] at ps; exact fun ι' H' σ' e R rs => ps ι' H' e R _ .non
        | rt v M' => rw [hr'] at ps; exact fun ι' H' x e R rx => ps ι' H' e R x rx
        | exc c v env M' => rw [hr'] at ps; exact fun ι' H' σ' d x e R rs rx hd => ps ι' H' d x e R rx hd
        | bk env M' => rw [hr'] at ps; exact ps.elim
        | ct env M' => rw [hr'] at ps; exact ps.elim
        | bad => rw [hr'] at ps; exact ps.elim
      · exact ps.elim
/-- an exception's __init__(self, y): self.f = y -/
theorem exi_ok {C fI : Addr} {fd : FuncData} {x qual f y : Str} {st : Stmt} {p1 p2 p3 p4 : Pos} (F : Fun G.K x qual st fI fd) (hb : defBody st = [.Assign [.Attribute (.Name "self" p1) f p2] (.Name y p3) p4]) (S : FnScope ["self", y] ["self", y] (defScope st))
    (hv : visB (defScope st) "self" = true) (hv2 : visB (defScope st) y = true) (hy : plainX y = true) (T : OexC G.K C) (hno : PySem.W.findIn G.K (.ref C) f = some none) : FnOk P w G.K mg base (L2.CX P w) 1 fI fd ["self", y] (spX C f) := by
  refine Fun.okX F S (fun xs H Q E h => ?_) fun cdv A outer s H xs Q E hr h => ?_
  · obtain ⟨a, v, rfl, _⟩ := h
    rfl
  · obtain ⟨a, v, rfl, ha, k⟩ := h
    rw [hb]
    obtain ⟨q1, q2, _⟩ := plain_d hy
    refine ⟨_, pss_one (ps_ost (pe_var (i := 0) rfl (vis_of hv)) (pe_var (i := 1) rfl (vis_of hv2) q1 q2) rfl), ?_⟩
    exact ⟨v, rfl, .ref a, rfl, a, C, rfl, T, hno, .inl ⟨ha, fun dx hd hne => k dx hd hne⟩⟩
end
end Dn
namespace Dn
open PySem PySem.Spec L2 PyProof.Rows
/-! ### a program by tables -/
structure Df where
  at_ : Str × Option Str
  name : Str
  qual : Str
  st : Stmt
  fn : Fn
def Df.dd (d : Df) : He.DefD := ⟨d.at_, d.name, d.qual, defArgs d.st, defBody d.st, defScope d.st, [], []⟩
instance : Inhabited Df := ⟨⟨("", none), "", "", .Pass ⟨0, 0, 0, 0⟩, ⟨[], [], .nil⟩⟩⟩
/-- an exception class: its name, its field, its __init__ with the parameter's name -/
structure Xc where
  name : Str
  fld : Nat
  ini : Df
  par : Str
structure Pg where
  blt : List Str
  glb : List (Str × Va)
  gtp : List (Str × List (List Nat))
  dfs : List Df
  cls : List (Str × Option Nat)
  flds : List Str
  mth : List ((Nat × Str) × Nat)
  exs : List Xc
  hcl : List (Str × List (Nat × Bool))
def longS (n : Nat) : Str := ⟨(List.replicate (n + 100) 95).toArray⟩
def mkFld (ns : List Str) (n : Nat) : Str := match ns[n]? with
  | some x => x
  | none => longS n
def fldOk (ns : List Str) : Bool := decide ns.Nodup && ns.all fun x => decide (x.cps.size < 100)
theorem longS_size (n : Nat) : (longS n).cps.size = n + 100 := by simp [longS]
theorem mkFld_inj {ns : List Str} (h : fldOk ns = true) (a b : Nat) (e : mkFld ns a = mkFld ns b) : a = b := by
  simp only [fldOk, Bool.and_eq_true, decide_eq_true_eq, List.all_eq_true] at h
  unfold mkFld at e
  cases ha : ns[a]? with
  | none =>
    cases hb : ns[b]? with
    | none =>
      rw [ha, hb] at e
      have := congrArg (fun s => s.cps.size) e
      simp only [longS_size] at this
      omega
    | some y =>
      rw [ha, hb] at e
      have h2 := h.2 y (List.mem_of_getElem? hb)
      have e : longS a = y := e
      rw [← e, longS_size] at h2
      omega
  | some x =>
    cases hb : ns[b]? with
    | none =>
      rw [ha, hb] at e
      have h2 := h.2 x (List.mem_of_getElem? ha)
      have e : x = longS b := e
      rw [e, longS_size] at h2
      omega
    | some y =>
      rw [ha, hb] at e
      have e : x = y := e
      subst e
      obtain ⟨h1, q1⟩ := List.getElem?_eq_some_iff.mp ha
      obtain ⟨h2, q2⟩ := List.getElem?_eq_some_iff.mp hb
      exact (List.getElem_inj h.1).mp (q1.trans q2.symm)
section
variable (p : Pg)
def Pg.nc : Nat := p.cls.length
def Pg.cnm (c : Nat) : Str := match p.cls[c]? with
  | some q => q.1
  | none => match p.exs[c - p.cls.length]? with
    | some x => x.name
    | none => ""
def Pg.xfl (c : Nat) : Nat := match p.exs[c - p.cls.length]? with
  | some x => x.fld
  | none => 0
def Pg.T : Tb where
  blt := p.blt
  glb := p.glb
  gtp := p.gtp
  nfn := p.dfs.length
  fnm := fun f => match p.dfs[f]? with
    | some d => (match d.at_.2 with
      | none => d.at_.1
      | some _ => "")
    | none => ""
  fps := fun f => match p.dfs[f]? with
    | some d => d.fn.ps
    | none => []
  ncl := p.cls.length
  cnm := p.cnm
  cin := fun c => match p.cls[c]? with
    | some q => q.2
    | none => none
  nfl := p.flds.length
  fln := mkFld p.flds
  mth := p.mth
  exs := []
def exsFrom : Nat → List Xc → List (Nat × Str)
  | _, [] => []
  | k, x :: r => (k, x.name) :: exsFrom (k + 1) r
def exfFrom (fl : List Str) : Nat → List Xc → List (Nat × (Nat × Str))
  | _, [] => []
  | k, x :: r => (k, (x.fld, mkFld fl x.fld)) :: exfFrom fl (k + 1) r
def Pg.U : Tx where
  exs := exsFrom p.cls.length p.exs
  hcl := p.hcl
  exf := exfFrom p.flds p.cls.length p.exs
def Pg.fs (f : Nat) : Fn := match p.dfs[f]? with
  | some d => d.fn
  | none => ⟨[], [], .nil⟩
def dataOf (K : PySem.W.Frag) (a : Addr) : FuncData := match K.lookup a with
  | some ⟨_, _, .func fd, _⟩ => fd
  | _ => PySem.W.fnOf "" "" ⟨[], [], none, [], [], none, []⟩ [] ⟨.function, [], false, false, []⟩ .none .none .none .none none .none .none
def Pg.G (K : PySem.W.Frag) (h : fldOk p.flds = true) : Glo where
  K := K
  cls := fun c => He.ga K (p.cnm c)
  fld := mkFld p.flds
  fldI := mkFld_inj h
  fad := fun f => match p.dfs[f]? with
    | some d => He.fAd K d.at_
    | none => 0
  fdt := fun f => match p.dfs[f]? with
    | some d => dataOf K (He.fAd K d.at_)
    | none => dataOf K 0
  xfl := p.xfl
  ncl := p.cls.length
/-! ### what is looked at behind the head -/
def excB (K : PySem.W.Frag) (C : Addr) : Bool := match K.lookup C with
  | some ⟨cl, dd, .cls cd, sl⟩ => (match cd.mro, sl.toList with
    | .ref C' :: bm, [k0, k1, k2, k3, some (.builtin n), k5] => (cl == .type "type") && (C' == C) && (n == "ValueError.__new__") && !cd.hasDel && cd.hasDict && PySem.HandSPX.refsVE bm
    | _, _ => false)
  | _ => false
def oexB (K : PySem.W.Frag) (C : Addr) : Bool := excB K C && decide (PySem.W.findIn K (.ref C) "__setattr__" = some (some (.builtin "object.__setattr__"))) && decide (PySem.W.subIn K (.ref C) (.type "BaseException") = some true) &&
  decide (PySem.W.typeIn K (.ref C) = some (.type "type")) && PySem.W.keepIn K (.ref C)
theorem oexB_ok {K : PySem.W.Frag} {C : Addr} (h : oexB K C = true) : OexC K C := by
  simp only [oexB, Bool.and_eq_true, decide_eq_true_eq] at h
  obtain ⟨⟨⟨⟨h1, h2⟩, h3⟩, h4⟩, h5⟩ := h
  refine ⟨?_, h2, h3, h4, h5⟩
  unfold excB at h1
  split at h1
  · rename_i cl dd cd sl ho
    split at h1
    · rename_i C' bm k0 k1 k2 k3 n k5 hm hs
      simp only [Bool.and_eq_true, beq_iff_eq, Bool.not_eq_true'] at h1
      obtain ⟨⟨⟨⟨⟨rfl, rfl⟩, rfl⟩, hdel⟩, hdict⟩, hb⟩ := h1
      obtain ⟨nm, bs, mro, ns, qn, hd, sn, sub, ab, col, del⟩ := cd
      dsimp only at hm hdel hdict
      subst hm hdel hdict
      have hsl : sl = #[k0, k1, k2, k3, some (.builtin "ValueError.__new__"), k5] := by
        obtain ⟨l⟩ := sl
        simp only at hs
        rw [hs]
      subst hsl
      exact ⟨_, _, _, _, _, _, _, _, _, _, _, _, _, _, _, ho, hb⟩
    · cases h1
  · cases h1
def chk (K : PySem.W.Frag) : Bool :=
  p.blt.all (fun x => (He.Fa.free x).ok K) &&
  (p.glb.all (fun q => match q.2 with
    | .int i => (He.Fa.int q.1 i).ok K
    | .str s => (He.Fa.str q.1 ⟨s.toArray⟩).ok K
    | _ => false) &&
  (p.gtp.all (fun q => (He.Fa.glo q.1).ok K && He.tupB K q.1 (q.2.map fun s => .str ⟨s.toArray⟩)) &&
  (p.dfs.all (fun d => match d.at_.2 with
    | none => (He.Fa.glo d.at_.1).ok K
    | some _ => true) &&
  (p.cls.all (fun q => (He.Fa.glo q.1).ok K && ((He.Fa.cls q.1).ok K && (p.flds.all (fun f => (He.Fa.noat q.1 f).ok K) && (match q.2 with
    | none => true
    | some f => (He.Fa.mkr q.1).ok K && decide (p.dfs[f]?.map (·.at_) = some (q.1, some ("__init__" : Str))))))) &&
  (p.mth.all (fun q => match p.cls[q.1.1]? with
    | none => false
    | some c => (He.Fa.meth c.1 q.1.2).ok K && (decide (p.dfs[q.2]?.map (·.at_) = some (c.1, some q.1.2)) && (decide (q.1.2 ∉ p.flds) && decide (q.1.2.cps.size < 100)))) &&
  (p.exs.all (fun x => (He.Fa.glo x.name).ok K && (oexB K (He.ga K x.name) && (decide (PySem.W.findIn K (.ref (He.ga K x.name)) "__init__" = some (some (.ref (He.ma K (He.ga K x.name) "__init__")))) &&
    (decide (PySem.W.typeIn K (.ref (He.ma K (He.ga K x.name) "__init__")) = some (.type "function")) && (decide (x.ini.at_ = (x.name, some ("__init__" : Str))) && (xfB K (He.ga K x.name) && decide (PySem.W.findIn K (.ref (He.ga K x.name)) (mkFld p.flds x.fld) = some none))))))) &&
  (p.hcl.all (fun q => (He.Fa.glo q.1).ok K && q.2.all (fun r => decide (PySem.W.exmOne K (.ref (He.ga K (p.cnm r.1))) (.ref (He.ga K q.1)) = some r.2))) &&
  K.all (fun q => !(q.2.cls == .type "list")))))))))
/-- the defs that are looked at -/
def Pg.dds : List He.DefD := p.dfs.map Df.dd ++ p.exs.map fun x => x.ini.dd
def says (K : PySem.W.Frag) : Prop := (chk p K && p.dds.all fun d => d.ok K, p.dds.map fun d => He.fnW K d.at_) = (true, p.dds.map He.DefD.val)
def obsX (n : Nat) (g : Addr → Option Obj) : He.AlD := let K := He.frG g (He.asD g n); (chk p K && p.dds.all fun d => d.ok K, p.dds.map fun d => He.fnW K d.at_)
def hookX (n : Nat) : PySem.W.Hook where
  α := He.AlD
  obs := fun s => obsX p n s.heap.get?
  val := fun _ => (true, p.dds.map He.DefD.val)
  says := fun _ h => ∃ K : PySem.W.Frag, K.In h ∧ says p K
  of := fun _ _ e => ⟨_, He.frG_in, e⟩
  keeps := fun _ _ _ ⟨K, hK, c⟩ k => ⟨K, PySem.W.Frag.In.keeps hK k, c⟩
theorem obsX_eq {n : Nat} {g : Addr → Option Obj} {s : Shared} (h : ∀ a, g a = s.heap.get? a) : obsX p n g = (hookX p n).obs s := by
  have e : g = s.heap.get? := funext h
  rw [e] <;> rfl
/-- what is to be shown of a def's text -/
structure DfOk (p : Pg) (d : Df) : Prop where
  body : defBody d.st = d.fn.body.py
  sc : FnScope d.fn.N d.fn.ps (defScope d.st)
  wf : wfSs p.T p.U ⟨d.fn.N, defScope d.st, fun _ => true⟩ d.fn.body = true
  bnd : ∀ (kV doc pm : Value) (an : Option Addr) (cdv ct : Value) (us : List Value), us.length = d.fn.ps.length → bindArgs (PySem.W.fnOf d.name d.qual (defArgs d.st) (defBody d.st) (defScope d.st) .none kV doc pm an cdv ct) ⟨us, []⟩ = pure (d.fn.ps.zip us)
structure XcOk (p : Pg) (x : Xc) : Prop where
  body : ∃ p1 p2 p3 p4, defBody x.ini.st = [.Assign [.Attribute (.Name "self" p1) (mkFld p.flds x.fld) p2] (.Name x.par p3) p4]
  sc : FnScope ["self", x.par] ["self", x.par] (defScope x.ini.st)
  v1 : visB (defScope x.ini.st) "self" = true
  v2 : visB (defScope x.ini.st) x.par = true
  pl : plainX x.par = true
  bnd : ∀ (kV doc pm : Value) (an : Option Addr) (cdv ct : Value) (us : List Value), us.length = 2 → bindArgs (PySem.W.fnOf x.ini.name x.ini.qual (defArgs x.ini.st) (defBody x.ini.st) (defScope x.ini.st) .none kV doc pm an cdv ct) ⟨us, []⟩ = pure ((["self", x.par] : List Str).zip us)
end
section
variable {p : Pg} {K : PySem.W.Frag} {P : Program} {w : World} {mg : Str → Option Value} {base h : Heap}
theorem funD_fun {st : Stmt} {x qual : Str} {f : Addr} {fd : FuncData} (F : FunD K x qual (defArgs st) (defBody st) (defScope st) [] [] f fd) : Fun K x qual st f fd := by
  obtain ⟨⟨oc, od, dV, kV, doc, pm, an, cdv, ct, osl, e, lk, hcd, hD, hK⟩, kp⟩ := F
  rcases hD with ⟨_, rfl⟩ | ⟨e', _⟩
  · exact ⟨⟨oc, od, kV, doc, pm, an, cdv, ct, osl, e, lk, hcd⟩, kp⟩
  · exact absurd rfl e'
theorem dataOf_eq {f : Addr} {fd : FuncData} {oc : Value} {od : Option Addr} {osl : Array (Option Value)} (h : K.lookup f = some ⟨oc, od, .func fd, osl⟩) : dataOf K f = fd := by
  unfold dataOf
  rw [h]
theorem says_def (c : says p K) {d : Df} (hd : d.dd ∈ p.dds) : FunD K d.name d.qual (defArgs d.st) (defBody d.st) (defScope d.st) [] [] (He.fAd K d.at_) (dataOf K (He.fAd K d.at_)) := by
  have c2 := (He.ba (show (chk p K && p.dds.all fun d => d.ok K) = true from congrArg (fun z : He.AlD => z.1) c)).2
  have e : p.dds.map (fun d => He.fnW K d.at_) = p.dds.map He.DefD.val := congrArg (fun z : He.AlD => z.2) c
  obtain ⟨i, hi⟩ := List.mem_iff_getElem?.mp hd
  have e2 : (p.dds.map fun d => He.fnW K d.at_)[i]? = (p.dds.map He.DefD.val)[i]? := by rw [e]
  rw [List.getElem?_map, List.getElem?_map, hi] at e2
  obtain ⟨fd, F⟩ := He.DefD.funD (Option.some.inj e2) (List.all_eq_true.mp c2 d.dd hd)
  have F' : FunD K d.name d.qual (defArgs d.st) (defBody d.st) (defScope d.st) [] [] (He.fAd K d.at_) fd := F
  obtain ⟨oc, od, dV, kV, doc, pm, an, cdv, ct, osl, e, lk, _⟩ := F'.ex
  rw [dataOf_eq lk]
  exact F'
theorem all_ok {α : Type} {l : List α} {f : α → Bool} (h : l.all f = true) {x : α} (hx : x ∈ l) : f x = true := List.all_eq_true.mp h x hx
theorem exsFrom_mem : ∀ {l : List Xc} {k c : Nat} {x : Str}, (c, x) ∈ exsFrom k l → ∃ i y, l[i]? = some y ∧ c = k + i ∧ x = y.name
  | [], _, _, _, h => by cases h
  | y :: r, k, c, x, h => by
    rcases List.mem_cons.mp h with e | h
    · cases e
      exact ⟨0, y, rfl, rfl, rfl⟩
    · obtain ⟨i, z, h1, h2, h3⟩ := exsFrom_mem h
      exact ⟨i + 1, z, h1, by omega, h3⟩
theorem exfFrom_mem {fl : List Str} : ∀ {l : List Xc} {k c f : Nat} {x : Str}, (c, (f, x)) ∈ exfFrom fl k l → ∃ i y, l[i]? = some y ∧ c = k + i ∧ f = y.fld ∧ x = mkFld fl y.fld
  | [], _, _, _, _, h => by cases h
  | y :: r, k, c, f, x, h => by
    rcases List.mem_cons.mp h with e | h
    · cases e
      exact ⟨0, y, rfl, rfl, rfl, rfl⟩
    · obtain ⟨i, z, h1, h2, h3⟩ := exfFrom_mem h
      exact ⟨i + 1, z, h1, by omega, h3⟩
theorem cnm_ex {i : Nat} {y : Xc} (h : p.exs[i]? = some y) : p.cnm (p.cls.length + i) = y.name := by
  unfold Pg.cnm
  rw [List.getElem?_eq_none (by omega), Nat.add_sub_cancel_left, h]
theorem xfl_ex {i : Nat} {y : Xc} (h : p.exs[i]? = some y) : p.xfl (p.cls.length + i) = y.fld := by
  unfold Pg.xfl
  rw [Nat.add_sub_cancel_left, h]
theorem pr_ok (hf : fldOk p.flds = true) (hd : ∀ d ∈ p.dfs, DfOk p d) (hx : ∀ x ∈ p.exs, XcOk p x) (KX : K.In h) (GN : h.Ns mainGlobals mg) (c : says p K) : PrOk p.T p.U (p.G K hf) p.fs P w mg base := by
  have c0 := (He.ba (show (chk p K && p.dds.all fun d => d.ok K) = true from congrArg (fun z : He.AlD => z.1) c)).1
  unfold chk at c0
  obtain ⟨k1, c0⟩ := He.ba c0
  obtain ⟨k2, c0⟩ := He.ba c0
  obtain ⟨k3, c0⟩ := He.ba c0
  obtain ⟨k4, c0⟩ := He.ba c0
  obtain ⟨k5, c0⟩ := He.ba c0
  obtain ⟨k6, c0⟩ := He.ba c0
  obtain ⟨k7, c0⟩ := He.ba c0
  obtain ⟨k8, k9⟩ := He.ba c0
  have fnAt : ∀ {f : Nat} {d : Df}, p.dfs[f]? = some d → FunD K d.name d.qual (defArgs d.st) (defBody d.st) (defScope d.st) [] [] (He.fAd K d.at_) (dataOf K (He.fAd K d.at_)) := fun {f d} e =>
    says_def c (List.mem_append_left _ (List.mem_map.mpr ⟨d, List.mem_of_getElem? e, rfl⟩))
  have dAt : ∀ {f : Nat}, f < p.dfs.length → ∃ d, p.dfs[f]? = some d := fun {f} h => ⟨_, List.getElem?_eq_getElem h⟩
  have exA : ∀ {y : Xc}, y ∈ p.exs → mg y.name = some (.ref (He.ga K y.name)) ∧ OexC K (He.ga K y.name) ∧ PySem.W.findIn K (.ref (He.ga K y.name)) "__init__" = some (some (.ref (He.ma K (He.ga K y.name) "__init__"))) ∧
      PySem.W.typeIn K (.ref (He.ma K (He.ga K y.name) "__init__")) = some (.type "function") ∧ y.ini.at_ = (y.name, some ("__init__" : Str)) ∧ XfC K (He.ga K y.name) ∧ PySem.W.findIn K (.ref (He.ga K y.name)) (mkFld p.flds y.fld) = some none := fun {y} hy => by
    have q := all_ok k7 hy
    obtain ⟨q1, q⟩ := He.ba q
    obtain ⟨q2, q⟩ := He.ba q
    obtain ⟨q3, q⟩ := He.ba q
    obtain ⟨q4, q⟩ := He.ba q
    obtain ⟨q5, q⟩ := He.ba q
    obtain ⟨q6, q7⟩ := He.ba q
    exact ⟨He.glo_ok KX GN q1, oexB_ok q2, of_decide_eq_true q3, of_decide_eq_true q4, of_decide_eq_true q5, xfB_ok q6, of_decide_eq_true q7⟩
  refine ⟨⟨rfl, fun x hx => He.free_ok KX GN (all_ok k1 hx), fun x v e => ?_, fun x vs e => ?_, fun f hf' => ?_, fun f x hf' hx hne => ?_, fun c hc => ?_, fun f _ => rfl, fun c f hc e => ?_, fun c x f e => ?_⟩, fun f hf' => ?_, fun c x hm => ?_, fun x cs e => ?_, fun c f n e => ?_⟩
  · have q := all_ok k2 (mem_lookup e)
    cases v with
    | int i =>
      obtain ⟨t, e1⟩ := He.int_ok KX GN (show (He.Fa.int x i).ok K = true from q)
      exact ⟨_, .int i, e1, ⟨t, rfl⟩, fun _ _ _ => .int i⟩
    | str s =>
      obtain ⟨t, e1⟩ := He.str_ok KX GN (show (He.Fa.str x ⟨s.toArray⟩).ok K = true from q)
      exact ⟨_, .str ⟨s.toArray⟩, e1, ⟨t, rfl⟩, fun _ _ _ => .str s⟩
    | _ => cases q
  · obtain ⟨q1, q2⟩ := He.ba (all_ok k3 (mem_lookup e))
    have q3 := He.tupB_ok q2 (fun _ => none)
    rcases q3 with z | ⟨o, its, n, e1, e2, e3, e4, e5⟩
    · rcases z with z | ⟨_, z⟩ <;> cases z
    · refine ⟨_, o, its, n, He.glo_ok KX GN q1, e1, e2, e3, e4, ?_⟩
      have e6 : (vs.map fun s => He.Dv.str ⟨s.toArray⟩).map (He.Dv.v K) = vs.map fun s => V.str ⟨s.toArray⟩ := by rw [List.map_map]; rfl
      rw [e6] at e5
      exact e5
  · obtain ⟨d, e⟩ := dAt hf'
    show Binds K _ _ []
    simp only [Pg.G, Pg.T, e]
    exact (fnAt e).bindsN (hd d (List.mem_of_getElem? e)).bnd
  · obtain ⟨d, e⟩ := dAt hf'
    simp only [Pg.T, e] at hx
    simp only [Pg.G, e]
    have q := all_ok k4 (List.mem_of_getElem? e)
    have kp := (fnAt e).kp
    obtain ⟨⟨a1, a2⟩, nm, ql, st, fn⟩ := d
    cases a2 with
    | some m => exact absurd hx.symm hne
    | none =>
      have hx : a1 = x := hx
      subst hx
      exact ⟨He.glo_ok KX GN q, kp⟩
  · have hc' : c < p.cls.length := hc
    have e : p.cls[c]? = some p.cls[c] := List.getElem?_eq_getElem hc'
    obtain ⟨q1, q⟩ := He.ba (all_ok k5 (List.getElem_mem hc'))
    obtain ⟨q2, q⟩ := He.ba q
    obtain ⟨q3, q4⟩ := He.ba q
    have en : p.cnm c = p.cls[c].1 := by unfold Pg.cnm; rw [e]
    show Cls K (He.ga K (p.cnm c)) ∧ mg (p.cnm c) = some (.ref (He.ga K (p.cnm c))) ∧ _
    rw [en]
    refine ⟨He.cls_ok q2, He.glo_ok KX GN q1, fun f hf' => ?_⟩
    have hf2 : f < p.flds.length := hf'
    show NoAttr K (He.ga K (p.cnm c)) (mkFld p.flds f)
    rw [en]
    unfold mkFld
    rw [List.getElem?_eq_getElem hf2]
    exact He.noat_ok (all_ok q3 (List.getElem_mem hf2))
  · have hc' : c < p.cls.length := hc
    have e0 : p.cls[c]? = some p.cls[c] := List.getElem?_eq_getElem hc'
    obtain ⟨q1, q⟩ := He.ba (all_ok k5 (List.getElem_mem hc'))
    obtain ⟨q2, q⟩ := He.ba q
    obtain ⟨q3, q4⟩ := He.ba q
    have en : p.cnm c = p.cls[c].1 := by unfold Pg.cnm; rw [e0]
    simp only [Pg.T, e0] at e
    rw [e] at q4
    obtain ⟨q5, q6⟩ := He.ba q4
    obtain ⟨d, h1, h2⟩ := Option.map_eq_some_iff.mp (of_decide_eq_true q6)
    have m := He.mkr_ok q5
    show Mk K (He.ga K (p.cnm c)) ((p.G K hf).fad f)
    rw [en]
    have ef : (p.G K hf).fad f = He.ma K (He.ga K p.cls[c].1) "__init__" := by
      simp only [Pg.G, h1, h2]
      rfl
    rw [ef]
    exact m
  · have q := all_ok k6 (mem_lookup e)
    have q : (match p.cls[c]? with
      | none => false
      | some cc => (He.Fa.meth cc.1 x).ok K && (decide (p.dfs[f]?.map (·.at_) = some (cc.1, some x)) && (decide (x ∉ p.flds) && decide (x.cps.size < 100)))) = true := q
    cases e0 : p.cls[c]? with
    | none => rw [e0] at q; cases q
    | some cc =>
      rw [e0] at q
      obtain ⟨q1, q⟩ := He.ba q
      obtain ⟨q2, q⟩ := He.ba q
      obtain ⟨q3, q4⟩ := He.ba q
      obtain ⟨d, h1, h2⟩ := Option.map_eq_some_iff.mp (of_decide_eq_true q2)
      have en : p.cnm c = cc.1 := by unfold Pg.cnm; rw [e0]
      refine ⟨?_, fun g hg => ?_⟩
      · show Meth K (He.ga K (p.cnm c)) x ((p.G K hf).fad f)
        rw [en]
        have ef : (p.G K hf).fad f = He.ma K (He.ga K cc.1) x := by
          simp only [Pg.G, h1, h2]
          rfl
        rw [ef]
        exact He.meth_ok q1
      · have hg : mkFld p.flds g = x := hg
        unfold mkFld at hg
        cases e1 : p.flds[g]? with
        | none =>
          rw [e1] at hg
          have hg : longS g = x := hg
          have z := of_decide_eq_true q4
          rw [← hg, longS_size] at z
          omega
        | some y =>
          rw [e1] at hg
          have hg : y = x := hg
          exact of_decide_eq_true q3 (hg ▸ List.mem_of_getElem? e1)
  · obtain ⟨d, e⟩ := dAt hf'
    have ok := hd d (List.mem_of_getElem? e)
    refine ⟨d.name, d.qual, d.st, ?_, ?_, ?_, ?_, ?_⟩
    · simp only [Pg.G, e]
      exact funD_fun (fnAt e)
    · simp only [Pg.fs, e]
      exact ok.body
    · simp only [Pg.fs, Pg.T, e]
      exact ok.sc
    · simp only [Pg.fs, Pg.T, e]
    · simp only [Pg.fs, e]
      exact ok.wf
  · obtain ⟨i, y, h1, rfl, rfl⟩ := exsFrom_mem hm
    have hy := List.mem_of_getElem? h1
    obtain ⟨a1, a2, a3, a4, a5, a6, a7⟩ := exA hy
    have ok := hx y hy
    have F := says_def c (d := y.ini) (List.mem_append_right _ (List.mem_map.mpr ⟨y, hy, rfl⟩))
    have ead : He.fAd K y.ini.at_ = He.ma K (He.ga K y.name) "__init__" := by rw [a5]; rfl
    rw [ead] at F
    have ec : (p.G K hf).cls (p.cls.length + i) = He.ga K y.name := by
      show He.ga K (p.cnm _) = _
      rw [cnm_ex h1]
    have ex : (p.G K hf).fld ((p.G K hf).xfl (p.cls.length + i)) = mkFld p.flds y.fld := by
      show mkFld p.flds (p.xfl _) = _
      rw [xfl_ex h1]
    obtain ⟨p1, p2, p3, p4, hb⟩ := ok.body
    refine ⟨_, _, ["self", y.par], ⟨?_, ?_, a4, F.bindsN ok.bnd, ?_, ?_, ?_⟩, ?_⟩
    · rw [ec]; exact a2
    · rw [ec]; exact a3
    · rw [ec]; exact a1
    · rw [ec]; exact a6
    · rw [ec, ex]; exact a7
    · rw [ec, ex]
      exact exi_ok (G := p.G K hf) (funD_fun F) hb ok.sc ok.v1 ok.v2 ok.pl a2 a7
  · obtain ⟨q1, q2⟩ := He.ba (all_ok k8 (mem_lookup e))
    exact ⟨_, He.glo_ok KX GN q1, fun c b hb => of_decide_eq_true (all_ok q2 (mem_lookup hb))⟩
  · obtain ⟨i, y, h1, rfl, rfl, rfl⟩ := exfFrom_mem (mem_lookup e)
    obtain ⟨a1, a2, a3, a4, a5, a6, a7⟩ := exA (List.mem_of_getElem? h1)
    have ec : (p.G K hf).cls (p.cls.length + i) = He.ga K y.name := by
      show He.ga K (p.cnm _) = _
      rw [cnm_ex h1]
    refine ⟨xfl_ex h1, rfl, ?_, ?_⟩
    · rw [ec]; exact a6
    · rw [ec]; exact a7
theorem noList (c : says p K) {a : Addr} {o : Obj} (h : K.lookup a = some o) : o.cls ≠ .type "list" := by
  have c0 := (He.ba (show (chk p K && p.dds.all fun d => d.ok K) = true from congrArg (fun z : He.AlD => z.1) c)).1
  unfold chk at c0
  have k9 := (He.ba (He.ba (He.ba (He.ba (He.ba (He.ba (He.ba (He.ba c0).2).2).2).2).2).2).2).2
  have z := all_ok k9 (mem_lookup h)
  intro e
  rw [e] at z
  cases z
/-- THE END: the law's def has the number f, its denotation at n calls deep is True for each script -/
theorem law_at {l : PySem.W.OpenLaw} {f n : Nat} {d : Df} {x : Str} (hf : fldOk p.flds = true) (hd : ∀ d ∈ p.dfs, DfOk p d) (hx : ∀ x ∈ p.exs, XcOk p x) (hdf : p.dfs[f]? = some d) (hps : d.fn.ps = [x]) (hat : d.at_ = (("law" : Str), none))
    (hm : ∀ ns : List Int, ns.length ≤ 63 → (∀ z ∈ ns, Builtin.Int.intBits z ≤ 1048576) → ∃ M, (orcN p.fs n).cl f [.lst (ns.map .int)] [] = .ok (.bl true) M)
    (mg : Str → Option Value) (fa : Addr) (h : Heap) (KX : K.In h) (GN : h.Ns mainGlobals mg) (c : says p K) (hmg : mg ("law" : Str) = some (.ref fa)) : LamX.LawAtS l w K (L2.CX l.prog w) (n + 2) 63 x mg fa h := by
  have F := says_def c (d := d) (List.mem_append_left _ (List.mem_map.mpr ⟨d, List.mem_of_getElem? hdf, rfl⟩))
  have efa : fa = He.fAd K d.at_ := by
    have c0 := (He.ba (show (chk p K && p.dds.all fun d => d.ok K) = true from congrArg (fun z : He.AlD => z.1) c)).1
    unfold chk at c0
    have k4 := (He.ba (He.ba (He.ba (He.ba c0).2).2).2).1
    have q := all_ok k4 (List.mem_of_getElem? hdf)
    rw [hat] at q ⊢
    have e := hmg.symm.trans (He.glo_ok KX GN q)
    cases e
    rfl
  refine ⟨(p.G K hf).fdt f, [], spO (p.G K hf) ((orcN p.fs n).cl f), fun q hq => (by cases hq), fun q hq => (by cases hq), fun q hq => (by cases hq), fun s u => ?_, fun H a ns hl hb _ hS => ?_, fun base' KB GB _ => ?_⟩
  · simp only [Pg.G, hdf]
    have b := FunD.bindsA (ps := [x]) F (by rw [← hps]; exact (hd d (List.mem_of_getElem? hdf)).bnd)
    exact b s [u] rfl
  · obtain ⟨M, e⟩ := hm ns hl hb
    have rd : Rd H a (.lst (ns.map V.int)) := by
      rcases hS with z | ⟨o, its, m, e1, e2, _⟩
      · exact z
      · exact absurd e2 (noList c e1)
    have rvs : ∀ (l : List Int), RVs [] [] H (l.map .int) (l.map V.int) := by
      intro l
      induction l with
      | nil => exact .nil
      | cons i r ih => exact .cons (.int i) ih
    refine ⟨[], [], [], [.lst (ns.map .int)], .cons (.lst ⟨by simp, by simp⟩ rd (rvs ns)) .nil, ⟨rfl, List.nodup_nil, fun g hg => (by cases hg), fun n o a e => (by simp at e)⟩, ?_⟩
    rw [e]
    intro ι' H' _ _ y ry
    cases ry
    rfl
  · have pr := pr_ok (P := l.prog) (w := w) (mg := mg) (base := base') hf hd hx KX GN c
    have ok := (fn_ok pr n).1 f (List.getElem?_eq_some_iff.mp hdf).1
    have e1 : (p.G K hf).fad f = fa := by
      simp only [Pg.G, hdf]
      exact efa.symm
    have e2 : p.T.fps f = [x] := by simp only [Pg.T, hdf]; exact hps
    rw [e1, e2] at ok
    exact ok
end
end Dn
namespace Dn
open PySem
/-! ### reckoning with the denotation -/
theorem compL_from {t : Itv} {set : Va → Env → Option Env} {cond : Env → Mem → Res Bool} {elt : Env → Mem → Res Va} {env : Env} {fin : List Va → Mem → Res Va} {M : Mem} (xs : List Va) (c : Va → Bool) (g : Va → Va)
    (hat : ∀ i, t.at M i = some xs[i]?) (hs : ∀ v ∈ xs, ∃ env1, set v env = some env1 ∧ cond env1 M = .ok (c v) M ∧ (c v = true → elt env1 M = .ok (g v) M)) (hl : xs.length ≤ sizeLine) :
    ∀ (k i : Nat) (acc : List Va), xs.length < k + i → i ≤ xs.length → acc.length ≤ i → compL t set cond elt env fin k i acc M = fin (acc ++ ((xs.drop i).filter c).map g) M
  | 0, i, acc, h, h2, _ => by omega
  | k + 1, i, acc, h, h2, h3 => by
    unfold compL
    rw [hat i]
    by_cases hi : i < xs.length
    · have e : xs[i]? = some xs[i] := List.getElem?_eq_getElem hi
      rw [e]
      obtain ⟨env1, e1, e2, e3⟩ := hs _ (List.getElem_mem hi)
      have ed : xs.drop i = xs[i] :: xs.drop (i + 1) := List.drop_eq_getElem_cons hi
      simp only [e1, e2, Res.calm, Res.bind_ok]
      cases hc : c xs[i] with
      | true =>
        rw [if_pos rfl, e3 hc]
        simp only [Res.calm, Res.bind_ok]
        rw [if_pos (by omega), compL_from xs c g hat hs hl k (i + 1) (acc ++ [g xs[i]]) (by omega) hi (by rw [List.length_append, List.length_singleton]; omega), ed, List.filter_cons, hc, if_pos rfl, List.map_cons, List.append_assoc]
        rfl
      | false =>
        rw [if_neg Bool.false_ne_true, compL_from xs c g hat hs hl k (i + 1) acc (by omega) hi (by omega), ed, List.filter_cons, hc, if_neg Bool.false_ne_true]
    · rw [List.getElem?_eq_none (by omega), List.drop_eq_nil_of_le (by omega)]
      simp
theorem compL_eq {t : Itv} {set : Va → Env → Option Env} {cond : Env → Mem → Res Bool} {elt : Env → Mem → Res Va} {env : Env} {fin : List Va → Mem → Res Va} {M : Mem} (xs : List Va) (c : Va → Bool) (g : Va → Va)
    (hat : ∀ i, t.at M i = some xs[i]?) (hs : ∀ v ∈ xs, ∃ env1, set v env = some env1 ∧ cond env1 M = .ok (c v) M ∧ (c v = true → elt env1 M = .ok (g v) M)) (hl : xs.length ≤ sizeLine) :
    compL t set cond elt env fin fuelW 0 [] M = fin ((xs.filter c).map g) M := by
  have h := compL_from (fin := fin) xs c g hat hs hl fuelW 0 [] (by unfold fuelW; unfold sizeLine at hl; omega) (Nat.zero_le _) (Nat.zero_le _)
  simpa using h
theorem sizeLine_eq' : sizeLine = 16777216 := rfl
theorem forL_stop {t : Itv} {set : Va → Env → Option Env} {body : Env → Mem → Rs} {k i : Nat} {env : Env} {M : Mem} (h : t.at M i = some none) : forL t set body (k + 1) i env M = .nx env M := by
  unfold forL
  rw [h]
theorem forL_next {t : Itv} {set : Va → Env → Option Env} {body : Env → Mem → Rs} {k i : Nat} {env env1 env2 : Env} {M M2 : Mem} {v : Va} (h : t.at M i = some (some v)) (hs : set v env = some env1) (hb : body env1 M = .nx env2 M2) :
    forL t set body (k + 1) i env M = forL t set body k (i + 1) env2 M2 := by
  conv => lhs; unfold forL
  simp only [h, hs, hb]
theorem forL_exc {t : Itv} {set : Va → Env → Option Env} {body : Env → Mem → Rs} {k i : Nat} {env env1 env2 : Env} {M M2 : Mem} {v w : Va} {c : Nat} (h : t.at M i = some (some v)) (hs : set v env = some env1) (hb : body env1 M = .exc c w env2 M2) :
    forL t set body (k + 1) i env M = .exc c w env2 M2 := by
  unfold forL
  simp only [h, hs, hb]
theorem forL_ret {t : Itv} {set : Va → Env → Option Env} {body : Env → Mem → Rs} {k i : Nat} {env env1 : Env} {M M2 : Mem} {v w : Va} (h : t.at M i = some (some v)) (hs : set v env = some env1) (hb : body env1 M = .rt w M2) :
    forL t set body (k + 1) i env M = .rt w M2 := by
  unfold forL
  simp only [h, hs, hb]
end Dn
namespace Dn
open PySem
def sok (s : List Nat) : Bool := s.all fun c => decide (c < 1114112)
theorem sok_eq (s : List Nat) : PyData.strOk ⟨s.toArray⟩ = sok s := by
  unfold PyData.strOk sok
  rw [List.all_toArray]
theorem eqC_int (M : Mem) (i j : Int) : eqC M (.int i) (.int j) = some (i == j) := by
  simp [eqC, vread, okD, vpure, vdep, veq]
theorem eqC_str {M : Mem} {a b : List Nat} (ha : sok a = true) (hb : sok b = true) : eqC M (.str a) (.str b) = some (a == b) := by
  rw [← sok_eq] at ha hb
  simp only [eqC, vread, okD, vpure, vdep, veq, ha, hb]
  rfl
theorem comp_eq {o : Orc} {m : Bool} {elt : E} {tg : Tg} {it : It'} {ifs : Es} {sc : Scope} {own : List (Str × Nat)} {p : Pos} {env : Env} {M : Mem} (t : Itv) (xs : List Va) (c : Va → Bool) (g : Va → Va) (hI : dI o it env M = .ok t M) (hat : ∀ i, t.at M i = some xs[i]?)
    (hs : ∀ v ∈ xs, ∃ env1, tgSet tg v (wipeE env (own.map (·.2))) = some env1 ∧ dC o ifs env1 M = .ok (c v) M ∧ (c v = true → dE o elt env1 M = .ok (g v) M)) (hl : xs.length ≤ sizeLine) :
    dE o (.comp m elt tg it ifs sc own p) env M = finC m ((xs.filter c).map g) M := by
  simp only [dE, hI, Res.bind_ok]
  exact compL_eq xs c g hat hs hl
theorem comp_map {o : Orc} {m : Bool} {elt : E} {tg : Tg} {it : It'} {sc : Scope} {own : List (Str × Nat)} {p : Pos} {env : Env} {M : Mem} (t : Itv) (xs : List Va) (g : Va → Va) (hI : dI o it env M = .ok t M) (hat : ∀ i, t.at M i = some xs[i]?)
    (hs : ∀ v ∈ xs, ∃ env1, tgSet tg v (wipeE env (own.map (·.2))) = some env1 ∧ dE o elt env1 M = .ok (g v) M) (hl : xs.length ≤ sizeLine) :
    dE o (.comp m elt tg it .nil sc own p) env M = finC m (xs.map g) M := by
  have h := comp_eq (ifs := .nil) (m := m) (sc := sc) (p := p) t xs (fun _ => true) g hI hat (fun v hv => by
    obtain ⟨env1, h1, h2⟩ := hs v hv
    exact ⟨env1, h1, rfl, fun _ => h2⟩) hl
  rw [h]
  congr 1
  rw [List.filter_eq_self.mpr fun _ _ => rfl]
theorem sz0 : (0 ≤ sizeLine) = True := eq_true (by decide)
theorem sz1 : (1 ≤ sizeLine) = True := eq_true (by decide)
theorem sz2 : (2 ≤ sizeLine) = True := eq_true (by decide)
theorem sz3 : (3 ≤ sizeLine) = True := eq_true (by decide)
theorem sz4 : (4 ≤ sizeLine) = True := eq_true (by decide)
theorem sz5 : (5 ≤ sizeLine) = True := eq_true (by decide)
theorem sz6 : (6 ≤ sizeLine) = True := eq_true (by decide)
theorem sz7 : (7 ≤ sizeLine) = True := eq_true (by decide)
theorem dB_one (o : Orc) (op : BoolOp) (e : E) (env : Env) (M : Mem) : dB o op (.cons e .nil) env M = dE o e env M := rfl
theorem dB_and (o : Orc) (e e' : E) (es : Es) (env : Env) (M : Mem) : dB o .And (.cons e (.cons e' es)) env M = ((dE o e env M).bind asB).bind fun b M => if b = true then dB o .And (.cons e' es) env M else .ok (.bl false) M := by
  rw [dB]
  cases dE o e env M with
  | ok v M1 => cases v <;> first | rfl | (rename_i b; cases b <;> rfl)
  | exc c v M1 => rfl
  | bad => rfl
theorem dB_or (o : Orc) (e e' : E) (es : Es) (env : Env) (M : Mem) : dB o .Or (.cons e (.cons e' es)) env M = ((dE o e env M).bind asB).bind fun b M => if b = true then .ok (.bl true) M else dB o .Or (.cons e' es) env M := by
  rw [dB]
  cases dE o e env M with
  | ok v M1 => cases v <;> first | rfl | (rename_i b; cases b <;> rfl)
  | exc c v M1 => rfl
  | bad => rfl
theorem ite_and (b c : Bool) (M : Mem) : (if b = true then Res.ok (Va.bl c) M else Res.ok (Va.bl false) M) = Res.ok (Va.bl (b && c)) M := by cases b <;> rfl
theorem ite_or (b c : Bool) (M : Mem) : (if b = true then Res.ok (Va.bl true) M else Res.ok (Va.bl c) M) = Res.ok (Va.bl (b || c)) M := by cases b <;> rfl
/-- a loop's target -/
def tgOf : S → Tg
  | .for_ tg _ _ _ => tg
  | _ => .tp .nil 0 ⟨0, 0, 0, 0⟩
end Dn
/-! What is done in a memory is done behind any other one: references move, nothing else does. -/
namespace Dn
open PySem L2
mutual
def shV (k : Nat) : Va → Va
  | .ref n => .ref (n + k)
  | .tup xs => .tup (shVs k xs)
  | .lst xs => .lst (shVs k xs)
  | .non => .non
  | .bl b => .bl b
  | .int i => .int i
  | .str s => .str s
def shVs (k : Nat) : List Va → List Va
  | [] => []
  | v :: vs => shV k v :: shVs k vs
end
theorem shVs_map (k : Nat) : ∀ vs, shVs k vs = vs.map (shV k)
  | [] => rfl
  | v :: vs => by rw [shVs, shVs_map k vs]; rfl
theorem shVs_len (k : Nat) (vs : List Va) : (shVs k vs).length = vs.length := by rw [shVs_map, List.length_map]
def shKV {κ : Type} (k : Nat) (l : List (κ × Va)) : List (κ × Va) := l.map fun p => (p.1, shV k p.2)
def shO (k : Nat) : Ob → Ob
  | .lst xs => .lst (shVs k xs)
  | .dic kvs => .dic (shKV k kvs)
  | .dit kvs => .dit (shKV k kvs)
  | .ins c fs => .ins c (shKV k fs)
def shM (P : Mem) (M : Mem) : Mem := P ++ M.map (shO P.length)
section
variable {P : Mem}
theorem sh_get (M : Mem) (n : Nat) : (shM P M)[n + P.length]? = M[n]?.map (shO P.length) := by
  unfold shM
  rw [List.getElem?_append_right (by omega), Nat.add_sub_cancel, List.getElem?_map]
theorem sh_len (M : Mem) : (shM P M).length = M.length + P.length := by
  unfold shM
  rw [List.length_append, List.length_map]
  omega
theorem sh_set (M : Mem) (n : Nat) (o : Ob) : (shM P M).set (n + P.length) (shO P.length o) = shM P (M.set n o) := by
  unfold shM
  rw [List.set_append_right _ _ (by omega), Nat.add_sub_cancel, List.map_set]
theorem sh_app (M : Mem) (o : Ob) : shM P M ++ [shO P.length o] = shM P (M ++ [o]) := by
  unfold shM
  rw [List.map_append, List.append_assoc]
  rfl
theorem shKV_len {κ : Type} (k : Nat) (l : List (κ × Va)) : (shKV k l).length = l.length := by simp [shKV]
theorem look_sh {κ : Type} [DecidableEq κ] (k : Nat) (c : κ) : ∀ l : List (κ × Va), look (shKV k l) c = (look l c).map (shV k)
  | [] => rfl
  | (a, v) :: l => by
    show (if a = c then some (shV k v) else look (shKV k l) c) = (if a = c then some v else look l c).map (shV k)
    split
    · rfl
    · exact look_sh k c l
theorem put_sh {κ : Type} [DecidableEq κ] (k : Nat) (c : κ) (v : Va) : ∀ l : List (κ × Va), put (shKV k l) c (shV k v) = shKV k (put l c v)
  | [] => rfl
  | (a, u) :: l => by
    show (if a = c then (a, shV k v) :: shKV k l else (a, shV k u) :: put (shKV k l) c (shV k v)) = shKV k (if a = c then (a, v) :: l else (a, u) :: put l c v)
    split
    · rfl
    · rw [put_sh k c v l]; rfl
/-! ### results -/
def FR {α : Type} (P : Mem) (f : α → α) : Res α → Res α → Prop
  | .bad, _ => True
  | .ok a M, r => r = .ok (f a) (shM P M)
  | .exc c v M, r => r = .exc c (shV P.length v) (shM P M)
theorem FR.bad {α : Type} {f : α → α} {r : Res α} : FR P f .bad r := trivial
theorem FR.ok {α : Type} {f : α → α} {a b : α} {M : Mem} (h : b = f a) : FR P f (.ok a M) (.ok b (shM P M)) := by subst h; rfl
theorem FR.bind {α β : Type} {f : α → α} {g : β → β} {r r' : Res α} {k k' : α → Mem → Res β} (h : FR P f r r') (hk : ∀ a M, FR P g (k a M) (k' (f a) (shM P M))) : FR P g (r.bind k) (r'.bind k') := by
  cases r with
  | bad => trivial
  | ok a M => cases h; exact hk a M
  | exc c v M => cases h; rfl
theorem FR.calm {α : Type} {f : α → α} {r r' : Res α} (h : FR P f r r') : FR P f r.calm r'.calm := by
  cases r with
  | bad => trivial
  | ok a M => cases h; rfl
  | exc c v M => trivial
theorem FR.ofO {α : Type} {f : α → α} {M : Mem} {o o' : Option α} (h : ∀ a, o = some a → o' = some (f a)) : FR P f (Res.ofO M o) (Res.ofO (shM P M) o') := by
  cases o with
  | none => trivial
  | some a => rw [h a rfl]; rfl
theorem FR.of {α : Type} {f : α → α} {r r' : Res α} (h : r' = match r with | .ok a M => .ok (f a) (shM P M) | .exc c v M => .exc c (shV P.length v) (shM P M) | .bad => .bad) : FR P f r r' := by
  subst h
  cases r <;> first | rfl | trivial
/-! ### operators -/
theorem itemsL_sh (M : Mem) (v : Va) : itemsL (shM P M) (shV P.length v) = (itemsL M v).map (shVs P.length) := by
  cases v with
  | lst xs => rfl
  | ref n =>
    simp only [shV, itemsL]
    rw [sh_get]
    cases M[n]? with
    | none => rfl
    | some ob => cases ob <;> rfl
  | _ => rfl
theorem itemsS_sh (M : Mem) (v : Va) : itemsS (shM P M) (shV P.length v) = (itemsS M v).map (shVs P.length) := by
  cases v with
  | tup xs => rfl
  | lst xs => rfl
  | ref n => exact itemsL_sh M (.ref n)
  | _ => rfl
theorem itemsO_sh (M : Mem) (v : Va) : itemsO (shM P M) (shV P.length v) = (itemsO M v).map (shVs P.length) := by
  cases v with
  | ref n =>
    simp only [shV, itemsO]
    rw [sh_get]
    cases M[n]? with
    | none => rfl
    | some ob => cases ob <;> rfl
  | _ => rfl
theorem newL_sh (m : Bool) (xs : List Va) (M : Mem) : FR P (shV P.length) (newL m xs M) (newL m (shVs P.length xs) (shM P M)) := by
  unfold newL
  rw [shVs_len]
  split
  · cases m with
    | true =>
      rw [if_pos rfl, if_pos rfl]
      show Res.ok _ _ = Res.ok (Va.ref (M.length + P.length)) (shM P (M ++ [Ob.lst xs]))
      rw [sh_len, ← sh_app]
      rfl
    | false => rfl
  · trivial
theorem rep_sh (k j : Nat) (xs : List Va) : (List.replicate j (shVs k xs)).flatten = shVs k (List.replicate j xs).flatten := by
  rw [shVs_map, shVs_map, List.map_flatten, List.map_replicate]
theorem app_sh (k : Nat) (xs ys : List Va) : shVs k xs ++ shVs k ys = shVs k (xs ++ ys) := by
  rw [shVs_map, shVs_map, shVs_map, List.map_append]
theorem opB_sh (m : Bool) (op : Operator) (v w : Va) (M : Mem) : FR P (shV P.length) (opB m op v w M) (opB m op (shV P.length v) (shV P.length w) (shM P M)) := by
  have lists : ∀ v w : Va, FR P (shV P.length) (match itemsL M v, itemsL M w with
      | some x, some y => if x.length + y.length ≤ sizeLine then newL m (x ++ y) M else .bad
      | _, _ => .bad) (match itemsL (shM P M) (shV P.length v), itemsL (shM P M) (shV P.length w) with
      | some x, some y => if x.length + y.length ≤ sizeLine then newL m (x ++ y) (shM P M) else .bad
      | _, _ => .bad) := by
    intro v w
    rw [itemsL_sh, itemsL_sh]
    cases itemsL M v with
    | none => trivial
    | some x =>
      cases itemsL M w with
      | none => trivial
      | some y =>
        simp only [Option.map_some]
        rw [shVs_len, shVs_len]
        split
        · rw [app_sh]; exact newL_sh m (x ++ y) M
        · trivial
  have reps : ∀ (v : Va) (k : Int), FR P (shV P.length) (match itemsL M v with
      | some x => if 0 ≤ k ∧ k < 2 ^ 62 ∧ x.length * k.toNat ≤ sizeLine then newL m (List.replicate k.toNat x).flatten M else .bad
      | none => .bad) (match itemsL (shM P M) (shV P.length v) with
      | some x => if 0 ≤ k ∧ k < 2 ^ 62 ∧ x.length * k.toNat ≤ sizeLine then newL m (List.replicate k.toNat x).flatten (shM P M) else .bad
      | none => .bad) := by
    intro v k
    rw [itemsL_sh]
    cases itemsL M v with
    | none => trivial
    | some x =>
      simp only [Option.map_some]
      rw [shVs_len]
      split
      · rw [rep_sh]; exact newL_sh m _ M
      · trivial
  cases op with
  | Add =>
    cases v with
    | lst a => cases w with
      | lst b => exact lists (.lst a) (.lst b)
      | ref b => exact lists (.lst a) (.ref b)
      | _ => trivial
    | ref a => cases w with
      | lst b => exact lists (.ref a) (.lst b)
      | ref b => exact lists (.ref a) (.ref b)
      | non => exact lists (.ref a) .non
      | bl b => exact lists (.ref a) (.bl b)
      | int b => exact lists (.ref a) (.int b)
      | str b => exact lists (.ref a) (.str b)
      | tup b => exact lists (.ref a) (.tup b)
    | tup a => cases w with
      | tup b =>
        simp only [opB, shV, shVs_len]
        split
        · show Res.ok _ _ = Res.ok _ _
          rw [app_sh]
          rfl
        · trivial
      | _ => trivial
    | str a => cases w with
      | str b =>
        simp only [opB, shV]
        split
        · rfl
        · trivial
      | _ => trivial
    | int a => cases w <;> first | rfl | trivial
    | non => cases w <;> trivial
    | bl b => cases w <;> trivial
  | Mult =>
    cases w with
    | int k => cases v with
      | lst a => exact reps (.lst a) k
      | ref a => exact reps (.ref a) k
      | tup a =>
        simp only [opB, shV, shVs_len]
        split
        · show Res.ok _ _ = Res.ok _ _
          rw [rep_sh]
          rfl
        · trivial
      | int a =>
        simp only [opB, shV]
        split
        · rfl
        · trivial
      | _ => trivial
    | _ => cases v <;> trivial
  | Sub => cases v <;> cases w <;> first | rfl | trivial
  | Mod => cases v <;> cases w <;> first | trivial | (simp only [opB, shV]; split <;> first | trivial | rfl)
  | FloorDiv => cases v <;> cases w <;> first | trivial | (simp only [opB, shV]; split <;> first | trivial | rfl)
  | Pow => cases v <;> cases w <;> first | trivial | (simp only [opB, shV]; split <;> first | trivial | rfl)
  | _ => cases v <;> cases w <;> trivial
end
end Dn
namespace Dn
open PySem L2
section
variable {P : Mem}
/-! ### comparisons -/
mutual
theorem vread_sh {f f' : Nat → Option Va} (hf : ∀ n, f' (n + P.length) = f n) : ∀ v : Va, vread f' (shV P.length v) = vread f v
  | .non => rfl
  | .bl _ => rfl
  | .int _ => rfl
  | .str _ => rfl
  | .ref n => hf n
  | .tup xs => by rw [shV, vread, vread, vreads_sh hf xs]
  | .lst xs => by rw [shV, vread, vread, vreads_sh hf xs]
theorem vreads_sh {f f' : Nat → Option Va} (hf : ∀ n, f' (n + P.length) = f n) : ∀ vs : List Va, vreads f' (shVs P.length vs) = vreads f vs
  | [] => rfl
  | v :: vs => by rw [shVs, vreads, vreads, vread_sh hf v, vreads_sh hf vs]
end
theorem rd1_sh {g g' : Nat → Option Va} (M : Mem) (hg : ∀ n, g' (n + P.length) = g n) (n : Nat) : rd1 g' (shM P M) (n + P.length) = rd1 g M n := by
  unfold rd1
  rw [sh_get]
  cases M[n]? with
  | none => rfl
  | some ob =>
    cases ob with
    | lst xs =>
      simp only [Option.map_some, shO]
      rw [vreads_sh hg xs]
    | _ => rfl
theorem rdM_sh (M : Mem) (n : Nat) : rdM (shM P M) (n + P.length) = rdM M n := rd1_sh M (rd1_sh M (rd1_sh M fun _ => rfl)) n
theorem eqC_sh (M : Mem) (v w : Va) : eqC (shM P M) (shV P.length v) (shV P.length w) = eqC M v w := by
  unfold eqC
  rw [vread_sh (rdM_sh M), vread_sh (rdM_sh M)]
theorem eqL_sh (M : Mem) (v w : Va) : eqL (shM P M) (shV P.length v) (shV P.length w) = eqL M v w := by
  have key : ∀ v w : Va, (match itemsL (shM P M) (shV P.length v), itemsL (shM P M) (shV P.length w) with
      | some xs, some ys => if xs.length = ys.length then none else some false
      | _, _ => none) = (match itemsL M v, itemsL M w with
      | some xs, some ys => if xs.length = ys.length then (none : Option Bool) else some false
      | _, _ => none) := by
    intro v w
    rw [itemsL_sh, itemsL_sh]
    cases itemsL M v with
    | none => rfl
    | some x =>
      cases itemsL M w with
      | none => rfl
      | some y => simp only [Option.map_some]; rw [shVs_len, shVs_len]
  unfold eqL
  rw [eqC_sh]
  split
  · rfl
  · cases v with
    | str a => cases w with
      | str b => rfl
      | ref b => exact key (.str a) (.ref b)
      | _ => rfl
    | lst a => cases w with
      | lst b => exact key (.lst a) (.lst b)
      | ref b => exact key (.lst a) (.ref b)
      | _ => rfl
    | ref a => cases w with
      | lst b => exact key (.ref a) (.lst b)
      | ref b => exact key (.ref a) (.ref b)
      | non => exact key (.ref a) .non
      | bl b => exact key (.ref a) (.bl b)
      | int b => exact key (.ref a) (.int b)
      | str b => exact key (.ref a) (.str b)
      | tup b => exact key (.ref a) (.tup b)
    | non => cases w with
      | ref b => exact key .non (.ref b)
      | _ => rfl
    | bl a => cases w with
      | ref b => exact key (.bl a) (.ref b)
      | _ => rfl
    | int a => cases w with
      | ref b => exact key (.int a) (.ref b)
      | _ => rfl
    | tup a => cases w with
      | ref b => exact key (.tup a) (.ref b)
      | _ => rfl
theorem flat_sh (v : Va) : flat (shV P.length v) = flat v := by cases v <;> rfl
theorem veq_flat {v w : Va} (h : flat w = true) : veq (shV P.length v) (shV P.length w) = veq v w := by
  cases v <;> cases w <;> first | rfl | (simp [flat] at h)
theorem all_sh : ∀ xs : List Va, (shVs P.length xs).all flat = xs.all flat
  | [] => rfl
  | x :: xs => by rw [shVs, List.all_cons, List.all_cons, flat_sh, all_sh xs]
theorem any_sh {v : Va} (h : flat v = true) : ∀ xs : List Va, ((shVs P.length xs).any fun y => veq y (shV P.length v)) = xs.any fun y => veq y v
  | [] => rfl
  | x :: xs => by rw [shVs, List.any_cons, List.any_cons, veq_flat h, any_sh h xs]
theorem keyOf_sh (v : Va) : keyOf (shV P.length v) = keyOf v := by cases v <;> rfl
theorem keysOf_sh : ∀ vs : List Va, keysOf (shVs P.length vs) = keysOf vs
  | [] => rfl
  | v :: vs => by rw [shVs, keysOf, keysOf, keyOf_sh, keysOf_sh vs]
theorem kyT_sh (v : Va) : kyT (shV P.length v) = kyT v := by
  cases v with
  | tup xs => exact keysOf_sh xs
  | _ => rfl
theorem dget_sh (M : Mem) (n : Nat) (k : Va) : dget (shM P M) (n + P.length) (shV P.length k) = (dget M n k).map (Option.map (shV P.length)) := by
  unfold dget
  rw [sh_get]
  cases M[n]? with
  | none => cases k <;> rfl
  | some ob =>
    cases ob with
    | dic kvs =>
      cases k with
      | int i => simp only [Option.map_some, shO, shV]; rw [look_sh]
      | str s => simp only [Option.map_some, shO, shV]; rw [look_sh]
      | _ => rfl
    | dit kvs =>
      cases k with
      | tup vs =>
        simp only [Option.map_some, shO, shV]
        rw [keysOf_sh]
        cases keysOf vs with
        | none => rfl
        | some ks => simp only [Option.map_some]; rw [look_sh]
      | _ => rfl
    | lst xs => cases k <;> rfl
    | ins c fs => cases k <;> rfl
theorem dput_sh (M : Mem) (n : Nat) (k v : Va) : dput (shM P M) (n + P.length) (shV P.length k) (shV P.length v) = (dput M n k v).map (shM P) := by
  unfold dput
  rw [sh_get]
  cases M[n]? with
  | none => cases k <;> rfl
  | some ob =>
    cases ob with
    | dic kvs =>
      cases k with
      | int i =>
        simp only [Option.map_some, shO, shV]
        rw [shKV_len, put_sh]
        split
        · simp only [Option.map_some]; rw [← sh_set]; rfl
        · rfl
      | str s =>
        simp only [Option.map_some, shO, shV]
        rw [shKV_len, put_sh]
        split
        · simp only [Option.map_some]; rw [← sh_set]; rfl
        · rfl
      | _ => rfl
    | dit kvs =>
      cases k with
      | tup vs =>
        simp only [Option.map_some, shO, shV]
        rw [keysOf_sh]
        cases keysOf vs with
        | none => rfl
        | some ks =>
          simp only
          rw [shKV_len, put_sh]
          split
          · simp only [Option.map_some]; rw [← sh_set]; rfl
          · rfl
      | _ => rfl
    | lst xs => cases k <;> rfl
    | ins c fs => cases k <;> rfl
theorem opIn_sh (v w : Va) (M : Mem) : opIn (shV P.length v) (shV P.length w) (shM P M) = opIn v w M := by
  have seq : ∀ xs : List Va, (if flat (shV P.length v) && (shVs P.length xs).all flat then some ((shVs P.length xs).any fun y => veq y (shV P.length v)) else none) = (if flat v && xs.all flat then some (xs.any fun y => veq y v) else none) := by
    intro xs
    rw [flat_sh, all_sh]
    split
    · rename_i h
      rw [Bool.and_eq_true] at h
      rw [any_sh h.1]
    · rfl
  cases w with
  | tup xs => exact seq xs
  | lst xs => exact seq xs
  | str y => cases v <;> rfl
  | ref n =>
    simp only [shV, opIn]
    rw [sh_get]
    have dg : (dget (shM P M) (n + P.length) (shV P.length v)).map (·.isSome) = (dget M n v).map (·.isSome) := by
      rw [dget_sh, Option.map_map]
      cases dget M n v with
      | none => rfl
      | some o => simp [Function.comp]
    cases hM : M[n]? with
    | none => exact dg
    | some ob =>
      cases ob with
      | lst xs => exact seq xs
      | dic kvs => exact dg
      | dit kvs => exact dg
      | ins c fs => exact dg
  | _ => rfl
theorem opC_sh (op : CmpOp) (v w : Va) (M : Mem) : opC op (shV P.length v) (shV P.length w) (shM P M) = opC op v w M := by
  cases op with
  | Eq => exact eqL_sh M v w
  | NotEq => simp only [opC]; rw [eqL_sh]
  | In => exact opIn_sh v w M
  | NotIn => simp only [opC]; rw [opIn_sh]
  | Lt => cases v <;> cases w <;> rfl
  | LtE => cases v <;> cases w <;> rfl
  | Gt => cases v <;> cases w <;> rfl
  | GtE => cases v <;> cases w <;> rfl
  | _ => rfl
/-! ### items -/
theorem atI_sh (xs : List Va) (i : Int) : L2.atI (shVs P.length xs) i = (L2.atI xs i).map (shV P.length) := by
  unfold L2.atI
  rw [shVs_len]
  cases L2.ixN xs.length i with
  | none => rfl
  | some j =>
    show (shVs P.length xs)[j]? = _
    rw [shVs_map, List.getElem?_map]
    rfl
theorem opIx_sh (v w : Va) (M : Mem) (a : Va) (h : opIx v w M = some a) : opIx (shV P.length v) (shV P.length w) (shM P M) = some (shV P.length a) := by
  have dg : ∀ n, (dget M n w).bind id = some a → (dget (shM P M) (n + P.length) (shV P.length w)).bind id = some (shV P.length a) := by
    intro n h
    rw [dget_sh]
    cases e : dget M n w with
    | none => rw [e] at h; cases h
    | some o =>
      rw [e] at h
      have h : o = some a := h
      subst h
      rfl
  cases v with
  | tup xs => cases w with
    | int i => simp only [opIx, shV] at h ⊢; rw [atI_sh, h]; rfl
    | _ => cases h
  | lst xs => cases w with
    | int i => simp only [opIx, shV] at h ⊢; rw [atI_sh, h]; rfl
    | _ => cases h
  | str s => cases w with
    | int i =>
      simp only [opIx, shV] at h ⊢
      split at h
      · rename_i hz
        rw [if_pos hz]
        obtain ⟨c, e1, e2⟩ := Option.map_eq_some_iff.mp h
        subst e2
        rw [e1]
        rfl
      · cases h
    | _ => cases h
  | ref n =>
    simp only [opIx, shV] at h ⊢
    rw [sh_get]
    cases hM : M[n]? with
    | none => rw [hM] at h; exact dg n h
    | some ob =>
      rw [hM] at h
      cases ob with
      | lst xs => cases w with
        | int i =>
          simp only [Option.map_some, shO, shV] at h ⊢
          rw [atI_sh, h]
          rfl
        | non => exact dg n h
        | bl b => exact dg n h
        | str b => exact dg n h
        | tup b => exact dg n h
        | lst b => exact dg n h
        | ref b => exact dg n h
      | dic kvs => exact dg n h
      | dit kvs => exact dg n h
      | ins c fs => exact dg n h
  | non => cases w <;> cases h
  | bl b => cases w <;> cases h
  | int b => cases w <;> cases h
theorem cutA_sh (xs : List Va) (lo hi : Option Int) : cutA (shVs P.length xs) lo hi = shVs P.length (cutA xs lo hi) := by
  unfold cutA
  rw [shVs_len, shVs_map, shVs_map, List.map_take, List.map_drop]
theorem opSl_sh (m : Bool) (v : Va) (lo hi : Option Int) (M : Mem) : FR P (shV P.length) (opSl m v lo hi M) (opSl m (shV P.length v) lo hi (shM P M)) := by
  have key : ∀ xs : List Va, FR P (shV P.length) (if m then .ok (.ref M.length) (M ++ [.lst (cutA xs lo hi)]) else .ok (.lst (cutA xs lo hi)) M) (if m then .ok (.ref (shM P M).length) (shM P M ++ [.lst (cutA (shVs P.length xs) lo hi)]) else .ok (.lst (cutA (shVs P.length xs) lo hi)) (shM P M)) := by
    intro xs
    rw [cutA_sh]
    cases m with
    | true =>
      rw [if_pos rfl, if_pos rfl]
      show Res.ok _ _ = Res.ok (Va.ref (M.length + P.length)) (shM P (M ++ [Ob.lst (cutA xs lo hi)]))
      rw [sh_len, ← sh_app]
      rfl
    | false => rfl
  cases v with
  | tup xs =>
    show Res.ok _ _ = Res.ok _ _
    rw [cutA_sh]
    rfl
  | str s =>
    simp only [opSl, shV]
    split
    · rfl
    · trivial
  | lst xs => exact key xs
  | ref n =>
    simp only [opSl, shV, itemsL]
    rw [sh_get]
    cases M[n]? with
    | none => trivial
    | some ob =>
      cases ob with
      | lst xs => exact key xs
      | _ => trivial
  | _ => trivial
/-! ### built-ins -/
theorem intsOf_sh : ∀ vs : List Va, intsOf (shVs P.length vs) = intsOf vs
  | [] => rfl
  | .int i :: vs => by rw [shVs, shV, intsOf, intsOf, intsOf_sh vs]
  | .non :: _ => rfl
  | .bl _ :: _ => rfl
  | .str _ :: _ => rfl
  | .tup _ :: _ => rfl
  | .lst _ :: _ => rfl
  | .ref _ :: _ => rfl
theorem blsOf_sh : ∀ vs : List Va, blsOf (shVs P.length vs) = blsOf vs
  | [] => rfl
  | .bl i :: vs => by rw [shVs, shV, blsOf, blsOf, blsOf_sh vs]
  | .non :: _ => rfl
  | .int _ :: _ => rfl
  | .str _ :: _ => rfl
  | .tup _ :: _ => rfl
  | .lst _ :: _ => rfl
  | .ref _ :: _ => rfl
theorem strsOf_sh : ∀ vs : List Va, strsOf (shVs P.length vs) = strsOf vs
  | [] => rfl
  | .str i :: vs => by rw [shVs, shV, strsOf, strsOf, strsOf_sh vs]
  | .non :: _ => rfl
  | .int _ :: _ => rfl
  | .bl _ :: _ => rfl
  | .tup _ :: _ => rfl
  | .lst _ :: _ => rfl
  | .ref _ :: _ => rfl
theorem txtKeys_sh : ∀ l : List (Sum Int (List Nat) × Va), txtKeys (shKV P.length l) = txtKeys l
  | [] => rfl
  | (.inr s, v) :: l => by
    show (txtKeys (shKV P.length l)).map (s :: ·) = _
    rw [txtKeys_sh l]
    rfl
  | (.inl _, _) :: _ => rfl
theorem strs_sh (ks : List (List Nat)) : shVs P.length (ks.map Va.str) = ks.map Va.str := by
  rw [shVs_map, List.map_map]
  rfl
theorem sortL_sh (m : Bool) (o : Option (List (List Nat))) (M : Mem) : FR P (shV P.length) (match o with | some ks => if ks.length < 64 then newL m ((sortW ks).map .str) M else .bad | none => .bad) (match o with | some ks => if ks.length < 64 then newL m ((sortW ks).map .str) (shM P M) else .bad | none => .bad) := by
  cases o with
  | none => trivial
  | some ks =>
    simp only
    split
    · have := newL_sh (P := P) m ((sortW ks).map .str) M
      rw [strs_sh] at this
      exact this
    · trivial
theorem opSort_sh (m : Bool) (v : Va) (M : Mem) : FR P (shV P.length) (opSort m v M) (opSort m (shV P.length v) (shM P M)) := by
  cases v with
  | ref n =>
    simp only [opSort, shV]
    rw [sh_get]
    cases M[n]? with
    | none => trivial
    | some ob =>
      cases ob with
      | dic kvs =>
        simp only [Option.map_some, shO]
        rw [txtKeys_sh]
        exact sortL_sh m _ M
      | lst xs =>
        simp only [Option.map_some, shO]
        rw [strsOf_sh]
        exact sortL_sh m _ M
      | _ => trivial
  | lst xs =>
    simp only [opSort, shV]
    rw [strsOf_sh]
    exact sortL_sh m _ M
  | _ => trivial
theorem opDict_sh (v : Va) (M : Mem) : FR P (shV P.length) (opDict v M) (opDict (shV P.length v) (shM P M)) := by
  cases v with
  | ref n =>
    simp only [opDict, shV]
    rw [sh_get]
    cases M[n]? with
    | none => trivial
    | some ob =>
      cases ob with
      | dic kvs =>
        show Res.ok _ _ = Res.ok (Va.ref (M.length + P.length)) (shM P (M ++ [Ob.dic kvs]))
        rw [sh_len, ← sh_app]
        rfl
      | _ => trivial
  | _ => trivial
theorem opF_sh (b : Blt) (m : Bool) (v : Va) (M : Mem) : FR P (shV P.length) (opF b m v M) (opF b m (shV P.length v) (shM P M)) := by
  cases b with
  | len =>
    cases v with
    | str s =>
      simp only [opF, shV]
      split
      · rfl
      · trivial
    | ref n =>
      simp only [opF, shV]
      rw [sh_get]
      cases M[n]? with
      | none => trivial
      | some ob =>
        cases ob with
        | dic kvs =>
          simp only [Option.map_some, shO]
          rw [shKV_len]
          rfl
        | lst xs =>
          simp only [Option.map_some, shO]
          rw [shVs_len]
          rfl
        | _ => trivial
    | tup xs =>
      show Res.ok (Va.int ((shVs P.length xs).length : Nat)) _ = _
      rw [shVs_len]
      rfl
    | lst xs =>
      show Res.ok (Va.int ((shVs P.length xs).length : Nat)) _ = _
      rw [shVs_len]
      rfl
    | _ => trivial
  | int => cases v <;> first | rfl | trivial
  | str =>
    cases v with
    | int i =>
      simp only [opF, shV]
      split
      · rfl
      · trivial
    | _ => trivial
  | tuple =>
    cases v with
    | tup xs => rfl
    | lst xs => rfl
    | ref n =>
      simp only [opF, shV, itemsL]
      rw [sh_get]
      cases M[n]? with
      | none => trivial
      | some ob => cases ob <;> first | rfl | trivial
    | _ => trivial
  | list =>
    simp only [opF]
    rw [itemsS_sh]
    cases itemsS M v with
    | none => trivial
    | some xs => exact newL_sh m xs M
  | sum =>
    simp only [opF]
    rw [itemsL_sh]
    cases itemsL M v with
    | none => trivial
    | some xs =>
      simp only [Option.map_some]
      rw [intsOf_sh]
      cases intsOf xs with
      | none => trivial
      | some ns => rfl
  | all =>
    simp only [opF]
    rw [itemsL_sh]
    cases itemsL M v with
    | none => trivial
    | some xs =>
      simp only [Option.map_some]
      rw [blsOf_sh]
      cases blsOf xs with
      | none => trivial
      | some ns => rfl
  | any =>
    simp only [opF]
    rw [itemsL_sh]
    cases itemsL M v with
    | none => trivial
    | some xs =>
      simp only [Option.map_some]
      rw [blsOf_sh]
      cases blsOf xs with
      | none => trivial
      | some ns => rfl
  | sorted => exact opSort_sh m v M
  | dict => exact opDict_sh v M
end
end Dn
namespace Dn
open PySem L2
section
variable {P : Mem}
theorem tyOf_sh (M : Mem) (v : Va) : tyOf (shM P M) (shV P.length v) = tyOf M v := by
  cases v with
  | ref n =>
    simp only [shV, tyOf]
    rw [sh_get]
    cases M[n]? with
    | none => rfl
    | some ob => cases ob <;> rfl
  | _ => rfl
theorem isiOf_sh (M : Mem) (v : Va) (t : Ty) : isiOf (shM P M) (shV P.length v) t = isiOf M v t := by
  unfold isiOf
  rw [tyOf_sh]
theorem fldOf_sh (M : Mem) (v : Va) (f : Nat) : fldOf (shM P M) (shV P.length v) f = (fldOf M v f).map (shV P.length) := by
  cases v with
  | ref n =>
    simp only [shV, fldOf]
    rw [sh_get]
    cases M[n]? with
    | none => rfl
    | some ob =>
      cases ob with
      | ins c fs => exact look_sh P.length f fs
      | _ => rfl
  | _ => rfl
theorem setFld_sh (M : Mem) (w : Va) (f : Nat) (v : Va) : setFld (shM P M) (shV P.length w) f (shV P.length v) = (setFld M w f v).map (shM P) := by
  cases w with
  | ref n =>
    simp only [shV, setFld]
    rw [sh_get]
    cases M[n]? with
    | none => rfl
    | some ob =>
      cases ob with
      | ins c fs =>
        simp only [Option.map_some, shO]
        rw [shKV_len, put_sh]
        split
        · simp only [Option.map_some]; rw [← sh_set]; rfl
        · rfl
      | _ => rfl
  | _ => rfl
theorem setAt_sh (M : Mem) (w i v : Va) : setAt (shM P M) (shV P.length w) (shV P.length i) (shV P.length v) = (setAt M w i v).map (shM P) := by
  cases w with
  | ref n =>
    simp only [shV, setAt]
    rw [sh_get]
    have dp := dput_sh (P := P) M n i v
    cases hM : M[n]? with
    | none => exact dp
    | some ob =>
      cases ob with
      | lst xs =>
        cases i with
        | int k =>
          simp only [Option.map_some, shO, shV]
          rw [shVs_len]
          cases L2.ixN xs.length k with
          | none => rfl
          | some j =>
            simp only [Option.map_some]
            rw [← sh_set]
            simp only [shO]
            rw [shVs_map, shVs_map, List.map_set]
        | _ => rfl
      | dic kvs => exact dp
      | dit kvs => exact dp
      | ins c fs => exact dp
  | _ => rfl
theorem clsOf_sh (M : Mem) (v : Va) : clsOf (shM P M) (shV P.length v) = clsOf M v := by
  cases v with
  | ref n =>
    simp only [shV, clsOf]
    rw [sh_get]
    cases M[n]? with
    | none => rfl
    | some ob => cases ob <;> rfl
  | _ => rfl
theorem augV_sh (sub : Bool) (v w : Va) : augV sub (shV P.length v) (shV P.length w) = (augV sub v w).map (shV P.length) := by
  cases v <;> cases w <;> rfl
theorem isNon_sh (v : Va) : (shV P.length v).isNon = v.isNon := by cases v <;> rfl
theorem madeOf_sh (n : Nat) (v : Va) (M : Mem) : FR P (shV P.length) (madeOf n v M) (madeOf (n + P.length) (shV P.length v) (shM P M)) := by
  cases v <;> first | rfl | trivial
theorem appTo_sh (v w : Va) (M : Mem) : FR P (shV P.length) (appTo v w M) (appTo (shV P.length v) (shV P.length w) (shM P M)) := by
  cases v with
  | ref n =>
    simp only [shV, appTo]
    rw [sh_get]
    cases M[n]? with
    | none => trivial
    | some ob =>
      cases ob with
      | lst xs =>
        simp only [Option.map_some, shO]
        rw [shVs_len]
        split
        · show Res.ok _ _ = Res.ok Va.non (shM P (M.set n (.lst (xs ++ [w]))))
          rw [← sh_set]
          simp only [shO]
          rw [← app_sh]
          rfl
        · trivial
      | _ => trivial
  | _ => trivial
theorem extTo_sh (v w : Va) (M : Mem) : FR P (shV P.length) (extTo v w M) (extTo (shV P.length v) (shV P.length w) (shM P M)) := by
  cases v with
  | ref n =>
    simp only [shV, extTo]
    rw [sh_get]
    cases M[n]? with
    | none => trivial
    | some ob =>
      cases ob with
      | lst xs =>
        cases w with
        | lst ys =>
          simp only [Option.map_some, shO, shV]
          rw [shVs_len, shVs_len]
          split
          · show Res.ok _ _ = Res.ok Va.non (shM P (M.set n (.lst (xs ++ ys))))
            rw [← sh_set]
            simp only [shO]
            rw [← app_sh]
          · trivial
        | _ => trivial
      | _ => cases w <;> trivial
  | _ => trivial
theorem popOf_sh (v : Va) (M : Mem) : FR P (shV P.length) (popOf v M) (popOf (shV P.length v) (shM P M)) := by
  cases v with
  | ref n =>
    simp only [shV, popOf]
    rw [sh_get]
    cases M[n]? with
    | none => trivial
    | some ob =>
      cases ob with
      | lst xs =>
        simp only [Option.map_some, shO]
        rw [shVs_map, List.getLast?_map]
        cases xs.getLast? with
        | none => trivial
        | some y =>
          show Res.ok _ _ = Res.ok (shV P.length y) (shM P (M.set n (.lst xs.dropLast)))
          rw [← sh_set]
          simp only [shO]
          rw [shVs_map, List.map_dropLast]
      | _ => trivial
  | _ => trivial
theorem delFrom_sh (M : Mem) (v w : Va) : delFrom (shM P M) (shV P.length v) (shV P.length w) = (delFrom M v w).map (shM P) := by
  cases v with
  | ref n =>
    cases w with
    | int i =>
      simp only [shV, delFrom]
      rw [sh_get]
      cases M[n]? with
      | none => rfl
      | some ob =>
        cases ob with
        | lst xs =>
          simp only [Option.map_some, shO]
          rw [shVs_len]
          split
          · simp only [Option.map_some]
            rw [← sh_set]
            simp only [shO]
            rw [shVs_map, shVs_map, List.map_take]
          · rfl
        | _ => rfl
    | _ => rfl
  | _ => cases w <;> rfl
theorem merge_sh : ∀ (ks : List (List Nat)) (vs : List Va) (acc : List (Sum Int (List Nat) × Va)), mergeD (shKV P.length acc) ks (shVs P.length vs) = shKV P.length (mergeD acc ks vs)
  | [], vs, acc => by cases vs <;> rfl
  | k :: ks, [], acc => rfl
  | k :: ks, v :: vs, acc => by
    rw [shVs, mergeD, mergeD, put_sh, merge_sh ks vs]
theorem newD_sh (ks : List (List Nat)) (vs : List Va) (M : Mem) : FR P (shV P.length) (newD ks vs M) (newD ks (shVs P.length vs) (shM P M)) := by
  unfold newD
  rw [shVs_len]
  split
  · show Res.ok _ _ = Res.ok (Va.ref (M.length + P.length)) (shM P (M ++ [Ob.dic (mergeD [] ks vs)]))
    rw [sh_len, ← sh_app]
    simp only [shO]
    rw [← merge_sh]
    rfl
  · trivial
/-! ### what is walked -/
def shI (k : Nat) : Itv → Itv
  | .vals xs => .vals (shVs k xs)
  | .live n => .live (n + k)
  | .liveE n => .liveE (n + k)
  | .rng a b c => .rng a b c
  | .enu xs => .enu (shVs k xs)
  | .txt s => .txt s
theorem at_sh (M : Mem) (i : Nat) (t : Itv) : (shI P.length t).at (shM P M) i = (t.at M i).map (Option.map (shV P.length)) := by
  cases t with
  | vals xs =>
    simp only [shI, Itv.at, Option.map_some]
    rw [shVs_map, List.getElem?_map]
  | live n =>
    simp only [shI, Itv.at]
    rw [sh_get]
    cases M[n]? with
    | none => rfl
    | some ob =>
      cases ob with
      | lst xs =>
        simp only [Option.map_some, shO]
        rw [shVs_map, List.getElem?_map]
      | _ => rfl
  | liveE n =>
    simp only [shI, Itv.at]
    rw [sh_get]
    cases M[n]? with
    | none => rfl
    | some ob =>
      cases ob with
      | lst xs =>
        simp only [Option.map_some, shO]
        rw [shVs_map, List.getElem?_map]
        cases xs[i]? <;> rfl
      | _ => rfl
  | rng a b c =>
    simp only [shI, Itv.at, Option.map_some]
    split <;> rfl
  | enu xs =>
    simp only [shI, Itv.at, Option.map_some]
    rw [shVs_map, List.getElem?_map]
    cases xs[i]? <;> rfl
  | txt s =>
    simp only [shI, Itv.at, Option.map_some]
    cases s[i]? <;> rfl
theorem seqOf_sh (M : Mem) (v : Va) : seqOf (shM P M) (shV P.length v) = (seqOf M v).map (shI P.length) := by
  cases v with
  | ref n =>
    simp only [shV, seqOf]
    rw [sh_get]
    cases M[n]? with
    | none => rfl
    | some ob => cases ob <;> rfl
  | _ => rfl
theorem enuOf_sh (M : Mem) (v : Va) : enuOf (shM P M) (shV P.length v) = (enuOf M v).map (shI P.length) := by
  cases v with
  | ref n =>
    simp only [shV, enuOf]
    rw [sh_get]
    cases M[n]? with
    | none => rfl
    | some ob => cases ob <;> rfl
  | _ => rfl
theorem rangeOf_sh (vs : List Va) (t : Itv) (h : rangeOf vs = some t) : rangeOf (shVs P.length vs) = some (shI P.length t) := by
  unfold rangeOf at h
  split at h
  · split at h
    · rename_i hc; cases h; simp only [shVs, shV, rangeOf, hc, if_true]; rfl
    · cases h
  · split at h
    · rename_i hc; cases h; simp only [shVs, shV, rangeOf, hc, if_true]; rfl
    · cases h
  · split at h
    · rename_i hc; cases h; simp only [shVs, shV, rangeOf, hc, if_true]; rfl
    · cases h
  · cases h
/-! ### names -/
structure LeE (k : Nat) (env env' : Env) : Prop where
  len : env.length = env'.length
  at_ : ∀ (i : Nat) (v : Va), env[i]? = some (some v) → env'[i]? = some (some (shV k v))
theorem LeE.set {k : Nat} {env env' : Env} (h : LeE k env env') (i : Nat) (v : Va) : LeE k (env.set i (some v)) (env'.set i (some (shV k v))) := by
  refine ⟨by rw [List.length_set, List.length_set, h.len], fun j w hj => ?_⟩
  by_cases e : i = j
  · subst e
    by_cases hl : i < env.length
    · rw [List.getElem?_set_self hl] at hj
      cases hj
      exact List.getElem?_set_self (by rw [← h.len]; exact hl)
    · rw [List.getElem?_eq_none (by simpa using hl)] at hj; cases hj
  · rw [List.getElem?_set_ne e] at hj ⊢
    exact h.at_ j w hj
theorem LeE.clear {k : Nat} {env env' : Env} (h : LeE k env env') (i : Nat) (u : Option Va) : LeE k (env.set i none) (env'.set i u) := by
  refine ⟨by rw [List.length_set, List.length_set, h.len], fun j w hj => ?_⟩
  by_cases e : i = j
  · subst e
    by_cases hl : i < env.length
    · rw [List.getElem?_set_self hl] at hj; cases hj
    · rw [List.getElem?_eq_none (by simpa using hl)] at hj; cases hj
  · rw [List.getElem?_set_ne e] at hj ⊢
    exact h.at_ j w hj
theorem LeE.wipe {k : Nat} {env env' : Env} (h : LeE k env env') : ∀ vs : List Nat, LeE k (wipeE env vs) (wipeE env' vs)
  | [] => h
  | v :: vs => (LeE.wipe h vs).clear v none
mutual
theorem tgSet_sh {k : Nat} : ∀ (t : Tg) (v : Va) (env env' env1 : Env), LeE k env env' → tgSet t v env = some env1 → ∃ env2, tgSet t (shV k v) env' = some env2 ∧ LeE k env1 env2
  | .nm i x p, v, env, env', env1, h, e => by
    simp only [tgSet, Option.some.injEq] at e
    subst e
    exact ⟨_, rfl, h.set i v⟩
  | .tp ts kk p, v, env, env', env1, h, e => by
    cases v with
    | tup vs =>
      simp only [tgSet] at e
      obtain ⟨env2, e2, h2⟩ := tgsSet_sh ts vs env env' env1 h e
      exact ⟨env2, by simp only [shV, tgSet]; exact e2, h2⟩
    | _ => simp [tgSet] at e
theorem tgsSet_sh {k : Nat} : ∀ (ts : Tgs) (vs : List Va) (env env' env1 : Env), LeE k env env' → tgsSet ts vs env = some env1 → ∃ env2, tgsSet ts (shVs k vs) env' = some env2 ∧ LeE k env1 env2
  | .nil, vs, env, env', env1, h, e => by
    cases vs with
    | nil =>
      simp only [tgsSet, Option.some.injEq] at e
      subst e
      exact ⟨env', rfl, h⟩
    | cons _ _ => simp [tgsSet] at e
  | .cons t ts, vs, env, env', env1, h, e => by
    cases vs with
    | nil => simp [tgsSet] at e
    | cons v vs =>
      simp only [tgsSet] at e
      split at e
      · rename_i env3 e3
        obtain ⟨env4, e4, h4⟩ := tgSet_sh t v env env' env3 h e3
        obtain ⟨env5, e5, h5⟩ := tgsSet_sh ts vs env3 env4 env1 h4 e
        exact ⟨env5, by simp only [shVs, tgsSet, e4]; exact e5, h5⟩
      · cases e
end
end
end Dn
namespace Dn
open PySem L2
section
variable {P : Mem}
theorem finC_sh (m : Bool) (acc : List Va) (M : Mem) : FR P (shV P.length) (finC m acc M) (finC m (shVs P.length acc) (shM P M)) := by
  unfold finC
  cases m with
  | true =>
    rw [if_pos rfl, if_pos rfl]
    show Res.ok _ _ = Res.ok (Va.ref (M.length + P.length)) (shM P (M ++ [Ob.lst acc]))
    rw [sh_len, ← sh_app]
    rfl
  | false => rfl
def FE (P : Mem) {α : Type} (f : α → α) (d d' : Env → Mem → Res α) : Prop := ∀ env env' M, LeE P.length env env' → FR P f (d env M) (d' env' (shM P M))
theorem compL_sh {t : Itv} {tg : Tg} {cond cond' : Env → Mem → Res Bool} {elt elt' : Env → Mem → Res Va} {m : Bool} (hc : FE P id cond cond') (he : FE P (shV P.length) elt elt') {env env' : Env} (hL : LeE P.length env env') :
    ∀ (k i : Nat) (acc : List Va) (M : Mem), FR P (shV P.length) (compL t (tgSet tg) cond elt env (finC m) k i acc M) (compL (shI P.length t) (tgSet tg) cond' elt' env' (finC m) k i (shVs P.length acc) (shM P M))
  | 0, _, _, _ => trivial
  | k + 1, i, acc, M => by
    unfold compL
    rw [at_sh]
    cases t.at M i with
    | none => trivial
    | some o =>
      cases o with
      | none => exact finC_sh m acc M
      | some v =>
        simp only [Option.map_some]
        cases hs : tgSet tg v env with
        | none => trivial
        | some env1 =>
          obtain ⟨env2, e2, h2⟩ := tgSet_sh tg v env env' env1 hL hs
          rw [e2]
          simp only
          refine FR.bind (hc env1 env2 M h2).calm fun b M2 => ?_
          cases b with
          | false => exact compL_sh hc he hL k (i + 1) acc M2
          | true =>
            simp only [id, if_true]
            refine FR.bind (he env1 env2 M2 h2).calm fun w M3 => ?_
            rw [shVs_len]
            split
            · have := compL_sh (t := t) (tg := tg) (m := m) hc he hL k (i + 1) (acc ++ [w]) M3
              rw [← app_sh] at this
              exact this
            · trivial
theorem dcL_sh {κ : Type} [DecidableEq κ] {ky : Va → Option κ} {mk : List (κ × Va) → Ob} (hky : ∀ v, ky (shV P.length v) = ky v) (hmk : ∀ l, shO P.length (mk l) = mk (shKV P.length l)) {t : Itv} {tg : Tg} {cond cond' : Env → Mem → Res Bool} {kx kx' vx vx' : Env → Mem → Res Va}
    (hc : FE P id cond cond') (hk : FE P (shV P.length) kx kx') (hv : FE P (shV P.length) vx vx') {env env' : Env} (hL : LeE P.length env env') :
    ∀ (k i : Nat) (acc : List (κ × Va)) (M : Mem), FR P (shV P.length) (dcL ky mk t (tgSet tg) cond kx vx env k i acc M) (dcL ky mk (shI P.length t) (tgSet tg) cond' kx' vx' env' k i (shKV P.length acc) (shM P M))
  | 0, _, _, _ => trivial
  | k + 1, i, acc, M => by
    unfold dcL
    rw [at_sh]
    cases t.at M i with
    | none => trivial
    | some o =>
      cases o with
      | none =>
        show Res.ok _ _ = Res.ok (Va.ref (M.length + P.length)) (shM P (M ++ [mk acc]))
        rw [sh_len, ← sh_app, hmk]
      | some v =>
        simp only [Option.map_some]
        cases hs : tgSet tg v env with
        | none => trivial
        | some env1 =>
          obtain ⟨env2, e2, h2⟩ := tgSet_sh tg v env env' env1 hL hs
          rw [e2]
          simp only
          refine FR.bind (hc env1 env2 M h2).calm fun b M2 => ?_
          cases b with
          | false => exact dcL_sh hky hmk hc hk hv hL k (i + 1) acc M2
          | true =>
            simp only [id, if_true]
            refine FR.bind (hk env1 env2 M2 h2).calm fun y M3 => FR.bind (hv env1 env2 M3 h2).calm fun w M4 => ?_
            rw [hky]
            cases ky y with
            | none => trivial
            | some c =>
              simp only
              rw [shKV_len]
              split
              · have := dcL_sh (t := t) (tg := tg) hky hmk hc hk hv hL k (i + 1) (put acc c w) M4
                rw [← put_sh] at this
                exact this
              · trivial
end
end Dn
namespace Dn
open PySem L2
section
variable {P : Mem}
/-- two sets of defs, the second does at least what the first does -/
structure FO (P : Mem) (o o' : Orc) : Prop where
  cl : ∀ f vs M, FR P (shV P.length) (o.cl f vs M) (o'.cl f (shVs P.length vs) (shM P M))
  ini : ∀ f vs M, FR P (shV P.length) (o.ini f vs M) (o'.ini f (shVs P.length vs) (shM P M))
variable {o o' : Orc}
theorem asB_sh (v : Va) (M : Mem) : FR P id (asB v M) (asB (shV P.length v) (shM P M)) := by
  cases v <;> first | rfl | trivial
theorem fe_var (ho : FO P o o') {i : Nat} {x : Str} {p : Pos}  : FE P (shV P.length) (dE o (.var i x p)) (dE o' (.var i x p)) := fun env env' M h => by
    simp only [dE]
    split
    · rename_i v e
      rw [h.at_ i v e]
      rfl
    · trivial
theorem fe_non (ho : FO P o o') {u0 : Nat} {u1 : Pos}  : FE P (shV P.length) (dE o (.non u0 u1)) (dE o' (.non u0 u1)) := fun _ _ _ _ => rfl
theorem fe_bl (ho : FO P o o') {u0 : Bool} {u1 : Nat} {u2 : Pos}  : FE P (shV P.length) (dE o (.bl u0 u1 u2)) (dE o' (.bl u0 u1 u2)) := fun _ _ _ _ => rfl
theorem fe_int (ho : FO P o o') {u0 : Int} {u1 : Nat} {u2 : Pos}  : FE P (shV P.length) (dE o (.int u0 u1 u2)) (dE o' (.int u0 u1 u2)) := fun _ _ _ _ => rfl
theorem fe_str (ho : FO P o o') {u0 : List Nat} {u1 : Nat} {u2 : Pos}  : FE P (shV P.length) (dE o (.str u0 u1 u2)) (dE o' (.str u0 u1 u2)) := fun _ _ _ _ => rfl
theorem fe_glb (ho : FO P o o') {v : Va} {u1 : Str} {u2 : Pos}  : FE P (shV P.length) (dE o (.glb v u1 u2)) (dE o' (.glb v u1 u2)) := fun env env' M h => by
    simp only [dE]
    cases v <;> first | (exact FR.ok (f := shV P.length) (a := .int _) rfl) | (exact FR.ok (f := shV P.length) (a := .str _) rfl) | trivial
theorem fe_bin (ho : FO P o o') {m : Bool} {op : Operator} {a : E} {b : E} {p : Pos} (h_a : FE P (shV P.length) (dE o a) (dE o' a)) (h_b : FE P (shV P.length) (dE o b) (dE o' b)) : FE P (shV P.length) (dE o (.bin m op a b p)) (dE o' (.bin m op a b p)) := fun env env' M h => by
    simp only [dE]
    exact FR.bind (h_a env env' M h) fun v M1 => FR.bind (h_b env env' M1 h) fun w M2 => opB_sh m op v w M2
theorem fe_neg (ho : FO P o o') {a : E} {p : Pos} (h_a : FE P (shV P.length) (dE o a) (dE o' a)) : FE P (shV P.length) (dE o (.neg a p)) (dE o' (.neg a p)) := fun env env' M h => by
    simp only [dE]
    refine FR.bind (h_a env env' M h) fun v M1 => ?_
    cases v <;> first | rfl | trivial
theorem fe_not (ho : FO P o o') {a : E} {p : Pos} (h_a : FE P (shV P.length) (dE o a) (dE o' a)) : FE P (shV P.length) (dE o (.not a p)) (dE o' (.not a p)) := fun env env' M h => by
    simp only [dE]
    refine FR.bind (h_a env env' M h) fun v M1 => ?_
    cases v <;> first | rfl | trivial
theorem fe_bop (ho : FO P o o') {op : BoolOp} {es : Es} {p : Pos} (h_es : FE P (shVs P.length) (dEs o es) (dEs o' es) ∧ FE P id (dO o es) (dO o' es) ∧ FE P id (dC o es) (dC o' es) ∧ ∀ op, FE P (shV P.length) (dB o op es) (dB o' op es)) : FE P (shV P.length) (dE o (.bop op es p)) (dE o' (.bop op es p)) := fun env env' M h => by
    simp only [dE]
    exact h_es.2.2.2 op env env' M h
theorem fe_cmp (ho : FO P o o') {op : CmpOp} {a : E} {b : E} {p : Pos} (h_a : FE P (shV P.length) (dE o a) (dE o' a)) (h_b : FE P (shV P.length) (dE o b) (dE o' b)) : FE P (shV P.length) (dE o (.cmp op a b p)) (dE o' (.cmp op a b p)) := fun env env' M h => by
    simp only [dE]
    refine FR.bind (h_a env env' M h) fun v M1 => FR.bind (h_b env env' M1 h) fun w M2 => ?_
    rw [opC_sh]
    refine FR.ofO fun z hz => ?_
    obtain ⟨c, e1, e2⟩ := Option.map_eq_some_iff.mp hz
    subst e2
    exact hz
theorem fe_chn (ho : FO P o o') {o1 : CmpOp} {o2 : CmpOp} {a : E} {b : E} {c : E} {p : Pos} (h_a : FE P (shV P.length) (dE o a) (dE o' a)) (h_b : FE P (shV P.length) (dE o b) (dE o' b)) (h_c : FE P (shV P.length) (dE o c) (dE o' c)) : FE P (shV P.length) (dE o (.chn o1 o2 a b c p)) (dE o' (.chn o1 o2 a b c p)) := fun env env' M h => by
    simp only [dE]
    refine FR.bind (h_a env env' M h) fun v M1 => FR.bind (h_b env env' M1 h) fun w M2 => ?_
    rw [opC_sh]
    refine FR.bind (f := id) (FR.ofO fun z hz => hz) fun k M3 => ?_
    simp only [id]
    split
    · refine FR.bind (h_c env env' M3 h) fun u M4 => ?_
      rw [opC_sh]
      refine FR.ofO fun z hz => ?_
      obtain ⟨c, e1, e2⟩ := Option.map_eq_some_iff.mp hz
      subst e2
      exact hz
    · rfl
theorem fe_inG (ho : FO P o o') {ng : Bool} {a : E} {vs : List (List Nat)} {x : Str} {q : Pos} {p : Pos} (h_a : FE P (shV P.length) (dE o a) (dE o' a)) : FE P (shV P.length) (dE o (.inG ng a vs x q p)) (dE o' (.inG ng a vs x q p)) := fun env env' M h => by
    simp only [dE]
    refine FR.bind (h_a env env' M h) fun v M1 => ?_
    rw [flat_sh]
    split
    · rename_i hf
      have e : ∀ y, veq (.str y) (shV P.length v) = veq (.str y) v := fun y => veq_flat (v := .str y) hf
      simp only [e]
      rfl
    · trivial
theorem fe_isN (ho : FO P o o') {ng : Bool} {a : E} {k : Nat} {q : Pos} {p : Pos} (h_a : FE P (shV P.length) (dE o a) (dE o' a)) : FE P (shV P.length) (dE o (.isN ng a k q p)) (dE o' (.isN ng a k q p)) := fun env env' M h => by
    simp only [dE]
    refine FR.bind (h_a env env' M h) fun v M1 => ?_
    rw [isNon_sh]
    rfl
theorem fe_ite (ho : FO P o o') {c : E} {a : E} {b : E} {p : Pos} (h_c : FE P (shV P.length) (dE o c) (dE o' c)) (h_a : FE P (shV P.length) (dE o a) (dE o' a)) (h_b : FE P (shV P.length) (dE o b) (dE o' b)) : FE P (shV P.length) (dE o (.ite c a b p)) (dE o' (.ite c a b p)) := fun env env' M h => by
    simp only [dE]
    refine FR.bind (h_c env env' M h) fun v M1 => ?_
    cases v with
    | bl k => cases k with
      | true => exact h_a env env' M1 h
      | false => exact h_b env env' M1 h
    | _ => trivial
theorem fe_tup (ho : FO P o o') {es : Es} {k : Nat} {p : Pos} (h_es : FE P (shVs P.length) (dEs o es) (dEs o' es) ∧ FE P id (dO o es) (dO o' es) ∧ FE P id (dC o es) (dC o' es) ∧ ∀ op, FE P (shV P.length) (dB o op es) (dB o' op es)) : FE P (shV P.length) (dE o (.tup es k p)) (dE o' (.tup es k p)) := fun env env' M h => by
    simp only [dE]
    refine FR.bind (h_es.1 env env' M h) fun vs M1 => ?_
    rw [shVs_len]
    split
    · rfl
    · trivial
theorem fe_lst (ho : FO P o o') {m : Bool} {es : Es} {p : Pos} (h_es : FE P (shVs P.length) (dEs o es) (dEs o' es) ∧ FE P id (dO o es) (dO o' es) ∧ FE P id (dC o es) (dC o' es) ∧ ∀ op, FE P (shV P.length) (dB o op es) (dB o' op es)) : FE P (shV P.length) (dE o (.lst m es p)) (dE o' (.lst m es p)) := fun env env' M h => by
    simp only [dE]
    exact FR.bind (h_es.1 env env' M h) fun vs M1 => newL_sh m vs M1
theorem fe_dnw (ho : FO P o o') {t : Bool} {p : Pos}  : FE P (shV P.length) (dE o (.dnw t p)) (dE o' (.dnw t p)) := fun env env' M h => by
    show Res.ok _ _ = Res.ok (Va.ref (M.length + P.length)) (shM P (M ++ [if t then .dit [] else .dic []]))
    rw [sh_len, ← sh_app]
    cases t <;> rfl
theorem fe_ix (ho : FO P o o') {a : E} {b : E} {p : Pos} (h_a : FE P (shV P.length) (dE o a) (dE o' a)) (h_b : FE P (shV P.length) (dE o b) (dE o' b)) : FE P (shV P.length) (dE o (.ix a b p)) (dE o' (.ix a b p)) := fun env env' M h => by
    simp only [dE]
    exact FR.bind (h_a env env' M h) fun v M1 => FR.bind (h_b env env' M1 h) fun w M2 => FR.ofO fun z hz => opIx_sh v w M2 z hz
theorem fe_sl (ho : FO P o o') {m : Bool} {a : E} {lo : Es} {hi : Es} {q : Pos} {p : Pos} (h_a : FE P (shV P.length) (dE o a) (dE o' a)) (h_lo : FE P (shVs P.length) (dEs o lo) (dEs o' lo) ∧ FE P id (dO o lo) (dO o' lo) ∧ FE P id (dC o lo) (dC o' lo) ∧ ∀ op, FE P (shV P.length) (dB o op lo) (dB o' op lo)) (h_hi : FE P (shVs P.length) (dEs o hi) (dEs o' hi) ∧ FE P id (dO o hi) (dO o' hi) ∧ FE P id (dC o hi) (dC o' hi) ∧ ∀ op, FE P (shV P.length) (dB o op hi) (dB o' op hi)) : FE P (shV P.length) (dE o (.sl m a lo hi q p)) (dE o' (.sl m a lo hi q p)) := fun env env' M h => by
    simp only [dE]
    exact FR.bind (h_a env env' M h) fun v M1 => FR.bind (h_lo.2.1 env env' M1 h) fun l M2 => FR.bind (h_hi.2.1 env env' M2 h) fun u M3 => opSl_sh m v l u M3
theorem fe_fld (ho : FO P o o') {a : E} {f : Nat} {x : Str} {p : Pos} (h_a : FE P (shV P.length) (dE o a) (dE o' a)) : FE P (shV P.length) (dE o (.fld a f x p)) (dE o' (.fld a f x p)) := fun env env' M h => by
    simp only [dE]
    refine FR.bind (h_a env env' M h) fun v M1 => ?_
    rw [fldOf_sh]
    exact FR.ofO fun z hz => by rw [hz]; rfl
theorem fe_call (ho : FO P o o') {f : Nat} {x : Str} {q : Pos} {es : Es} {p : Pos} (h_es : FE P (shVs P.length) (dEs o es) (dEs o' es) ∧ FE P id (dO o es) (dO o' es) ∧ FE P id (dC o es) (dC o' es) ∧ ∀ op, FE P (shV P.length) (dB o op es) (dB o' op es)) : FE P (shV P.length) (dE o (.call f x q es p)) (dE o' (.call f x q es p)) := fun env env' M h => by
    simp only [dE]
    exact FR.bind (h_es.1 env env' M h) fun vs M1 => ho.cl f vs M1
theorem fe_make (ho : FO P o o') {c : Nat} {f : Nat} {x : Str} {q : Pos} {es : Es} {p : Pos} (h_es : FE P (shVs P.length) (dEs o es) (dEs o' es) ∧ FE P id (dO o es) (dO o' es) ∧ FE P id (dC o es) (dC o' es) ∧ ∀ op, FE P (shV P.length) (dB o op es) (dB o' op es)) : FE P (shV P.length) (dE o (.make c f x q es p)) (dE o' (.make c f x q es p)) := fun env env' M h => by
    simp only [dE]
    refine FR.bind (h_es.1 env env' M h) fun vs M1 => ?_
    have e := ho.ini f (.ref M1.length :: vs) (M1 ++ [.ins c []])
    rw [← sh_app] at e
    rw [sh_len]
    exact FR.bind e.calm fun v M2 => madeOf_sh M1.length v M2
theorem fe_meth (ho : FO P o o') {c : Nat} {f : Nat} {a : E} {x : Str} {q : Pos} {es : Es} {p : Pos} (h_a : FE P (shV P.length) (dE o a) (dE o' a)) (h_es : FE P (shVs P.length) (dEs o es) (dEs o' es) ∧ FE P id (dO o es) (dO o' es) ∧ FE P id (dC o es) (dC o' es) ∧ ∀ op, FE P (shV P.length) (dB o op es) (dB o' op es)) : FE P (shV P.length) (dE o (.meth c f a x q es p)) (dE o' (.meth c f a x q es p)) := fun env env' M h => by
    simp only [dE]
    refine FR.bind (h_a env env' M h) fun v M1 => ?_
    cases v with
    | ref n =>
      simp only [shV]
      rw [sh_get]
      cases M1[n]? with
      | none => trivial
      | some ob =>
        cases ob with
        | ins c' fs =>
          simp only [Option.map_some, shO]
          split
          · exact FR.bind (h_es.1 env env' M1 h) fun vs M2 => ho.cl f (.ref n :: vs) M2
          · trivial
        | _ => trivial
    | _ => trivial
theorem fe_blt (ho : FO P o o') {b : Blt} {m : Bool} {q : Pos} {a : E} {p : Pos} (h_a : FE P (shV P.length) (dE o a) (dE o' a)) : FE P (shV P.length) (dE o (.blt b m q a p)) (dE o' (.blt b m q a p)) := fun env env' M h => by
    simp only [dE]
    exact FR.bind (h_a env env' M h) fun v M1 => opF_sh b m v M1
theorem fe_isi (ho : FO P o o') {a : E} {t : Ty} {q : Pos} {r : Pos} {p : Pos} (h_a : FE P (shV P.length) (dE o a) (dE o' a)) : FE P (shV P.length) (dE o (.isi a t q r p)) (dE o' (.isi a t q r p)) := fun env env' M h => by
    simp only [dE]
    refine FR.bind (h_a env env' M h) fun v M1 => ?_
    rw [isiOf_sh]
    refine FR.ofO fun z hz => ?_
    obtain ⟨c, e1, e2⟩ := Option.map_eq_some_iff.mp hz
    subst e2
    exact hz
theorem fe_isi2 (ho : FO P o o') {a : E} {t : Ty} {u : Ty} {q : Pos} {r1 : Pos} {r2 : Pos} {tp : Pos} {k : Nat} {p : Pos} (h_a : FE P (shV P.length) (dE o a) (dE o' a)) : FE P (shV P.length) (dE o (.isi2 a t u q r1 r2 tp k p)) (dE o' (.isi2 a t u q r1 r2 tp k p)) := fun env env' M h => by
    simp only [dE]
    refine FR.bind (h_a env env' M h) fun v M1 => ?_
    rw [tyOf_sh]
    refine FR.ofO fun z hz => ?_
    obtain ⟨c, e1, e2⟩ := Option.map_eq_some_iff.mp hz
    subst e2
    exact hz
theorem fe_app (ho : FO P o o') {a : E} {e : E} {q : Pos} {p : Pos} (h_a : FE P (shV P.length) (dE o a) (dE o' a)) (h_e : FE P (shV P.length) (dE o e) (dE o' e)) : FE P (shV P.length) (dE o (.app a e q p)) (dE o' (.app a e q p)) := fun env env' M h => by
    simp only [dE]
    refine FR.bind (h_a env env' M h) fun v M1 => ?_
    rw [itemsO_sh]
    cases itemsO M1 v with
    | none => trivial
    | some xs => exact FR.bind (h_e env env' M1 h) fun w M2 => appTo_sh v w M2
theorem fe_pop (ho : FO P o o') {a : E} {q : Pos} {p : Pos} (h_a : FE P (shV P.length) (dE o a) (dE o' a)) : FE P (shV P.length) (dE o (.pop a q p)) (dE o' (.pop a q p)) := fun env env' M h => by
    simp only [dE]
    exact FR.bind (h_a env env' M h) fun v M1 => popOf_sh v M1
theorem fe_ext (ho : FO P o o') {a : E} {e : E} {q : Pos} {p : Pos} (h_a : FE P (shV P.length) (dE o a) (dE o' a)) (h_e : FE P (shV P.length) (dE o e) (dE o' e)) : FE P (shV P.length) (dE o (.ext a e q p)) (dE o' (.ext a e q p)) := fun env env' M h => by
    simp only [dE]
    refine FR.bind (h_a env env' M h) fun v M1 => ?_
    rw [itemsO_sh]
    cases itemsO M1 v with
    | none => trivial
    | some xs => exact FR.bind (h_e env env' M1 h) fun w M2 => extTo_sh v w M2
theorem fe_dsp (ho : FO P o o') {ks : List (List Nat × Nat × Pos)} {es : Es} {p : Pos} (h_es : FE P (shVs P.length) (dEs o es) (dEs o' es) ∧ FE P id (dO o es) (dO o' es) ∧ FE P id (dC o es) (dC o' es) ∧ ∀ op, FE P (shV P.length) (dB o op es) (dB o' op es)) : FE P (shV P.length) (dE o (.dsp ks es p)) (dE o' (.dsp ks es p)) := fun env env' M h => by
    simp only [dE]
    exact FR.bind (h_es.1 env env' M h).calm fun vs M1 => newD_sh _ vs M1
theorem fe_dcm (ho : FO P o o') {tu : Bool} {kx : E} {vx : E} {tg : Tg} {it : It'} {ifs : Es} {sc : Scope} {own : List (Str × Nat)} {p : Pos} (h_kx : FE P (shV P.length) (dE o kx) (dE o' kx)) (h_vx : FE P (shV P.length) (dE o vx) (dE o' vx)) (h_it : FE P (shI P.length) (dI o it) (dI o' it)) (h_ifs : FE P (shVs P.length) (dEs o ifs) (dEs o' ifs) ∧ FE P id (dO o ifs) (dO o' ifs) ∧ FE P id (dC o ifs) (dC o' ifs) ∧ ∀ op, FE P (shV P.length) (dB o op ifs) (dB o' op ifs)) : FE P (shV P.length) (dE o (.dcm tu kx vx tg it ifs sc own p)) (dE o' (.dcm tu kx vx tg it ifs sc own p)) := fun env env' M h => by
    simp only [dE]
    refine FR.bind (h_it env env' M h) fun t M1 => ?_
    cases tu with
    | true =>
      simp only [if_true]
      exact dcL_sh kyT_sh (fun _ => rfl) (fun env env' M h => h_ifs.2.2.1 env env' M h) (fun env env' M h => h_kx env env' M h) (fun env env' M h => h_vx env env' M h) (h.wipe _) _ _ [] M1
    | false =>
      simp only [Bool.false_eq_true, if_false]
      exact dcL_sh keyOf_sh (fun _ => rfl) (fun env env' M h => h_ifs.2.2.1 env env' M h) (fun env env' M h => h_kx env env' M h) (fun env env' M h => h_vx env env' M h) (h.wipe _) _ _ [] M1
theorem fe_comp (ho : FO P o o') {m : Bool} {elt : E} {tg : Tg} {it : It'} {ifs : Es} {sc : Scope} {own : List (Str × Nat)} {p : Pos} (h_elt : FE P (shV P.length) (dE o elt) (dE o' elt)) (h_it : FE P (shI P.length) (dI o it) (dI o' it)) (h_ifs : FE P (shVs P.length) (dEs o ifs) (dEs o' ifs) ∧ FE P id (dO o ifs) (dO o' ifs) ∧ FE P id (dC o ifs) (dC o' ifs) ∧ ∀ op, FE P (shV P.length) (dB o op ifs) (dB o' op ifs)) : FE P (shV P.length) (dE o (.comp m elt tg it ifs sc own p)) (dE o' (.comp m elt tg it ifs sc own p)) := fun env env' M h => by
    simp only [dE]
    refine FR.bind (h_it env env' M h) fun t M1 => ?_
    exact compL_sh (fun env env' M h => h_ifs.2.2.1 env env' M h) (fun env env' M h => h_elt env env' M h) (h.wipe _) _ _ [] M1
end
end Dn
namespace Dn
open PySem L2
section
variable {P : Mem}
variable {o o' : Orc}
mutual
theorem dE_sh (ho : FO P o o') : ∀ e : E, FE P (shV P.length) (dE o e) (dE o' e)
  | .var i x p => fe_var ho 
  | .non u0 u1 => fe_non ho 
  | .bl u0 u1 u2 => fe_bl ho 
  | .int u0 u1 u2 => fe_int ho 
  | .str u0 u1 u2 => fe_str ho 
  | .glb v u1 u2 => fe_glb ho 
  | .bin m op a b p => fe_bin ho (dE_sh ho a) (dE_sh ho b)
  | .neg a p => fe_neg ho (dE_sh ho a)
  | .not a p => fe_not ho (dE_sh ho a)
  | .bop op es p => fe_bop ho (dEs_sh ho es)
  | .cmp op a b p => fe_cmp ho (dE_sh ho a) (dE_sh ho b)
  | .chn o1 o2 a b c p => fe_chn ho (dE_sh ho a) (dE_sh ho b) (dE_sh ho c)
  | .inG ng a vs x q p => fe_inG ho (dE_sh ho a)
  | .isN ng a k q p => fe_isN ho (dE_sh ho a)
  | .ite c a b p => fe_ite ho (dE_sh ho c) (dE_sh ho a) (dE_sh ho b)
  | .tup es k p => fe_tup ho (dEs_sh ho es)
  | .lst m es p => fe_lst ho (dEs_sh ho es)
  | .dnw t p => fe_dnw ho 
  | .ix a b p => fe_ix ho (dE_sh ho a) (dE_sh ho b)
  | .sl m a lo hi q p => fe_sl ho (dE_sh ho a) (dEs_sh ho lo) (dEs_sh ho hi)
  | .fld a f x p => fe_fld ho (dE_sh ho a)
  | .call f x q es p => fe_call ho (dEs_sh ho es)
  | .make c f x q es p => fe_make ho (dEs_sh ho es)
  | .meth c f a x q es p => fe_meth ho (dE_sh ho a) (dEs_sh ho es)
  | .blt b m q a p => fe_blt ho (dE_sh ho a)
  | .isi a t q r p => fe_isi ho (dE_sh ho a)
  | .isi2 a t u q r1 r2 tp k p => fe_isi2 ho (dE_sh ho a)
  | .app a e q p => fe_app ho (dE_sh ho a) (dE_sh ho e)
  | .pop a q p => fe_pop ho (dE_sh ho a)
  | .ext a e q p => fe_ext ho (dE_sh ho a) (dE_sh ho e)
  | .dsp ks es p => fe_dsp ho (dEs_sh ho es)
  | .dcm tu kx vx tg it ifs sc own p => fe_dcm ho (dE_sh ho kx) (dE_sh ho vx) (dI_sh ho it) (dEs_sh ho ifs)
  | .comp m elt tg it ifs sc own p => fe_comp ho (dE_sh ho elt) (dI_sh ho it) (dEs_sh ho ifs)
theorem dEs_sh (ho : FO P o o') : ∀ es : Es, FE P (shVs P.length) (dEs o es) (dEs o' es) ∧ FE P id (dO o es) (dO o' es) ∧ FE P id (dC o es) (dC o' es) ∧ ∀ op, FE P (shV P.length) (dB o op es) (dB o' op es)
  | .nil => ⟨fun _ _ _ _ => rfl, fun _ _ _ _ => rfl, fun _ _ _ _ => rfl, fun _ _ _ _ _ => trivial⟩
  | .cons e es => by
    have he := dE_sh ho e
    have hs := dEs_sh ho es
    refine ⟨fun env env' M h => ?_, fun env env' M h => ?_, fun env env' M h => ?_, fun op env env' M h => ?_⟩
    · simp only [dEs]
      exact FR.bind (he env env' M h) fun v M1 => FR.bind (hs.1 env env' M1 h) fun vs M2 => rfl
    · simp only [dO]
      refine FR.bind (he env env' M h) fun v M1 => ?_
      cases v <;> first | rfl | trivial
    · simp only [dC]
      exact FR.bind (he env env' M h) fun v M1 => asB_sh v M1
    · cases es with
      | nil => exact he env env' M h
      | cons e2 es2 =>
        simp only [dB]
        refine FR.bind (he env env' M h) fun v M1 => ?_
        cases v with
        | bl k =>
          cases k with
          | true =>
            cases op with
            | And => exact hs.2.2.2 .And env env' M1 h
            | Or => exact FR.ok (f := shV P.length) (a := .bl true) rfl
          | false =>
            cases op with
            | And => exact FR.ok (f := shV P.length) (a := .bl false) rfl
            | Or => exact hs.2.2.2 .Or env env' M1 h
        | _ => exact FR.bad
theorem dI_sh (ho : FO P o o') : ∀ it : It', FE P (shI P.length) (dI o it) (dI o' it)
  | .seq e => fun env env' M h => by
    simp only [dI]
    refine FR.bind (dE_sh ho e env env' M h) fun v M1 => ?_
    rw [seqOf_sh]
    exact FR.ofO fun z hz => by rw [hz]; rfl
  | .rng es q p => fun env env' M h => by
    simp only [dI]
    exact FR.bind ((dEs_sh ho es).1 env env' M h) fun vs M1 => FR.ofO fun z hz => rangeOf_sh vs z hz
  | .enu e q p => fun env env' M h => by
    simp only [dI]
    refine FR.bind (dE_sh ho e env env' M h) fun v M1 => ?_
    rw [enuOf_sh]
    exact FR.ofO fun z hz => by rw [hz]; rfl
end
end
end Dn
namespace Dn
open PySem L2
section
variable {P : Mem}
def FS (P : Mem) : Rs → Rs → Prop
  | .bad, _ => True
  | .nx e M, r => ∃ e', r = .nx e' (shM P M) ∧ LeE P.length e e'
  | .bk e M, r => ∃ e', r = .bk e' (shM P M) ∧ LeE P.length e e'
  | .ct e M, r => ∃ e', r = .ct e' (shM P M) ∧ LeE P.length e e'
  | .rt v M, r => r = .rt (shV P.length v) (shM P M)
  | .exc c v e M, r => ∃ e', r = .exc c (shV P.length v) e' (shM P M) ∧ LeE P.length e e'
def FT (P : Mem) (d d' : Env → Mem → Rs) : Prop := ∀ env env' M, LeE P.length env env' → FS P (d env M) (d' env' (shM P M))
theorem FS.toS {α : Type} {f : α → α} {r r' : Res α} {env env' : Env} {k k' : α → Mem → Rs} (h : FR P f r r') (hL : LeE P.length env env') (hk : ∀ a M, FS P (k a M) (k' (f a) (shM P M))) : FS P (r.toS env k) (r'.toS env' k') := by
  cases r with
  | bad => trivial
  | ok a M => cases h; exact hk a M
  | exc c v M => cases h; exact ⟨env', rfl, hL⟩
theorem FS.ofO {M : Mem} {env env' : Env} {o : Option Mem} (hL : LeE P.length env env') : FS P (Rs.ofO env o) (Rs.ofO env' (o.map (shM P))) := by
  cases o with
  | none => trivial
  | some M => exact ⟨env', rfl, hL⟩
theorem FS.nx {env env' : Env} {M : Mem} (h : LeE P.length env env') : FS P (.nx env M) (.nx env' (shM P M)) := ⟨env', rfl, h⟩
theorem whileL_sh {cond cond' : Env → Mem → Res Bool} {body body' : Env → Mem → Rs} (hc : FE P id cond cond') (hb : FT P body body') : ∀ (k : Nat) (env env' : Env) (M : Mem), LeE P.length env env' → FS P (whileL cond body k env M) (whileL cond' body' k env' (shM P M))
  | 0, _, _, _, _ => trivial
  | k + 1, env, env', M, h => by
    unfold whileL
    refine FS.toS (hc env env' M h) h fun b M1 => ?_
    cases b with
    | false => exact FS.nx h
    | true =>
      simp only [id, if_true]
      have q := hb env env' M1 h
      cases hr : body env M1 with
      | bad => trivial
      | nx e M2 =>
        rw [hr] at q
        obtain ⟨e', q1, q2⟩ := q
        rw [q1]
        exact whileL_sh hc hb k e e' M2 q2
      | ct e M2 =>
        rw [hr] at q
        obtain ⟨e', q1, q2⟩ := q
        rw [q1]
        exact whileL_sh hc hb k e e' M2 q2
      | bk e M2 =>
        rw [hr] at q
        obtain ⟨e', q1, q2⟩ := q
        rw [q1]
        exact FS.nx q2
      | rt v M2 =>
        rw [hr] at q
        have q : _ = _ := q
        rw [q]
        rfl
      | exc c v e M2 =>
        rw [hr] at q
        obtain ⟨e', q1, q2⟩ := q
        rw [q1]
        exact ⟨e', rfl, q2⟩
theorem forL_sh {t : Itv} {tg : Tg} {body body' : Env → Mem → Rs} (hb : FT P body body') : ∀ (k i : Nat) (env env' : Env) (M : Mem), LeE P.length env env' → FS P (forL t (tgSet tg) body k i env M) (forL (shI P.length t) (tgSet tg) body' k i env' (shM P M))
  | 0, _, _, _, _, _ => trivial
  | k + 1, i, env, env', M, h => by
    unfold forL
    rw [at_sh]
    cases t.at M i with
    | none => trivial
    | some o =>
      cases o with
      | none => exact FS.nx h
      | some v =>
        simp only [Option.map_some]
        cases hs : tgSet tg v env with
        | none => trivial
        | some env1 =>
          obtain ⟨env2, e2, h2⟩ := tgSet_sh tg v env env' env1 h hs
          rw [e2]
          simp only
          have q := hb env1 env2 M h2
          cases hr : body env1 M with
          | bad => trivial
          | nx e M2 =>
            rw [hr] at q
            obtain ⟨e', q1, q2⟩ := q
            rw [q1]
            exact forL_sh hb k (i + 1) e e' M2 q2
          | ct e M2 =>
            rw [hr] at q
            obtain ⟨e', q1, q2⟩ := q
            rw [q1]
            exact forL_sh hb k (i + 1) e e' M2 q2
          | bk e M2 =>
            rw [hr] at q
            obtain ⟨e', q1, q2⟩ := q
            rw [q1]
            exact FS.nx q2
          | rt v M2 =>
            rw [hr] at q
            have q : _ = _ := q
            rw [q]
            rfl
          | exc c v e M2 =>
            rw [hr] at q
            obtain ⟨e', q1, q2⟩ := q
            rw [q1]
            exact ⟨e', rfl, q2⟩
/-! suites -/
mutual
theorem dHE_sh (v : Va) : ∀ e : HE, dHE (shV P.length v) e = shV P.length (dHE v e)
  | .non _ _ => rfl
  | .bl _ _ _ => rfl
  | .int _ _ _ => rfl
  | .str _ _ _ => rfl
  | .err _ _ _ _ _ _ => rfl
  | .tup es _ _ => by rw [dHE, dHE, dHEs_sh v es]; rfl
theorem dHEs_sh (v : Va) : ∀ es : HEs, dHEs (shV P.length v) es = shVs P.length (dHEs v es)
  | .nil => rfl
  | .cons e es => by rw [dHEs, dHEs, dHE_sh v e, dHEs_sh v es]; rfl
end
theorem hide_le {n : Option (Nat × Str)} {env env' : Env} (h : LeE P.length env env') : LeE P.length (hideE n env) (hideE n env') := by
  cases n with
  | none => exact h
  | some p => exact h.clear p.1 none
theorem dHds_sh (c : Nat) (v : Va) (M : Mem) {env env' : Env} (h : LeE P.length env env') : ∀ hs : List Hd, FS P (dHds c v env M hs) (dHds c (shV P.length v) env' (shM P M) hs)
  | [] => ⟨env', rfl, h⟩
  | d :: hs => by
    unfold dHds
    cases d.cs.lookup c with
    | none => trivial
    | some b =>
      cases b with
      | false => exact dHds_sh c v M h hs
      | true =>
        simp only
        have e : slotOk d.n env' = slotOk d.n env := by
          unfold slotOk
          split
          · rw [h.len]
          · rfl
        rw [e]
        split
        · cases hsu : d.su with
          | ret e p =>
            show Rs.rt _ _ = Rs.rt _ _
            rw [dHE_sh]
          | set i x q e p =>
            refine FS.nx (hide_le ?_)
            have := (hide_le (n := d.n) h).set i (dHE v e)
            rw [← dHE_sh] at this
            exact this
        · trivial
variable {o o' : Orc}
theorem setAts_sh (ho : FO P o o') : ∀ (ts : List At) (vs : List Va) (env env' : Env) (M : Mem), LeE P.length env env' → FS P (Rs.ofP (setAts o ts vs env M)) (Rs.ofP (setAts o' ts (shVs P.length vs) env' (shM P M)))
  | [], [], env, env', M, h => FS.nx h
  | [], _ :: _, _, _, _, _ => trivial
  | .nm _ _ _ :: _, [], _, _, _, _ => trivial
  | .at_ _ _ _ _ :: _, [], _, _, _, _ => trivial
  | .nm i x p :: ts, v :: vs, env, env', M, h => by
    simp only [shVs, setAts]
    exact setAts_sh ho ts vs _ _ M (h.set i v)
  | .at_ a f x p :: ts, v :: vs, env, env', M, h => by
    simp only [shVs, setAts]
    have q := dE_sh ho a env env' M h
    cases hr : dE o a env M with
    | bad => trivial
    | exc c w M1 => trivial
    | ok w M1 =>
      rw [hr] at q
      have q : _ = _ := q
      rw [q]
      simp only
      rw [setFld_sh]
      cases setFld M1 w f v with
      | none => trivial
      | some M2 => exact setAts_sh ho ts vs env env' M2 h
theorem asB_fe (ho : FO P o o') (c : E) : FE P id (fun env M => (dE o c env M).bind asB) (fun env M => (dE o' c env M).bind asB) := fun env env' M h => FR.bind (dE_sh ho c env env' M h) fun v M1 => asB_sh v M1
mutual
theorem dS_sh (ho : FO P o o') : ∀ s : S, FT P (dS o s) (dS o' s)
  | .ats ts k q e p => fun env env' M h => by
    simp only [dS]
    refine FS.toS (dE_sh ho e env env' M h) h fun v M1 => ?_
    cases v with
    | tup vs => exact setAts_sh ho ts vs env env' M1 h
    | _ => trivial
  | .delf a lo p2 q p => fun env env' M h => by
    simp only [dS]
    refine FS.toS (dE_sh ho a env env' M h) h fun v M1 => FS.toS (dE_sh ho lo env env' M1 h) h fun w M2 => ?_
    rw [delFrom_sh]
    exact FS.ofO (M := M2) h
  | .set i x q e p => fun env env' M h => by
    simp only [dS]
    exact FS.toS (dE_sh ho e env env' M h) h fun v M1 => FS.nx (h.set i v)
  | .unp ts k q e p => fun env env' M h => by
    simp only [dS]
    refine FS.toS (dE_sh ho e env env' M h) h fun v M1 => ?_
    cases hs : tgSet (.tp ts k q) v env with
    | none => trivial
    | some env1 =>
      obtain ⟨env2, e2, h2⟩ := tgSet_sh (.tp ts k q) v env env' env1 h hs
      rw [e2]
      exact FS.nx h2
  | .par i j x y px py pt kt a b k2 p2 p => fun env env' M h => by
    simp only [dS]
    refine FS.toS ((dEs_sh ho _).1 env env' M h) h fun vs M1 => ?_
    cases vs with
    | nil => trivial
    | cons v vs => cases vs with
      | nil => trivial
      | cons w vs => cases vs with
        | nil => exact FS.nx ((h.set i v).set j w)
        | cons _ _ => trivial
  | .par3 i j l x y z px py pz pt kt a b c k2 p2 p => fun env env' M h => by
    simp only [dS]
    refine FS.toS ((dEs_sh ho _).1 env env' M h) h fun vs M1 => ?_
    cases vs with
    | nil => trivial
    | cons v vs => cases vs with
      | nil => trivial
      | cons w vs => cases vs with
        | nil => trivial
        | cons u vs => cases vs with
          | nil => exact FS.nx (((h.set i v).set j w).set l u)
          | cons _ _ => trivial
  | .sfld a f x q e p => fun env env' M h => by
    simp only [dS]
    refine FS.toS (dE_sh ho e env env' M h) h fun v M1 => FS.toS (dE_sh ho a env env' M1 h) h fun w M2 => ?_
    rw [setFld_sh]
    exact FS.ofO (M := M2) h
  | .ssub a i q e p => fun env env' M h => by
    simp only [dS]
    refine FS.toS (dE_sh ho e env env' M h) h fun v M1 => FS.toS (dE_sh ho a env env' M1 h) h fun w M2 => FS.toS (dE_sh ho i env env' M2 h) h fun j M3 => ?_
    rw [setAt_sh]
    exact FS.ofO (M := M3) h
  | .aug i x q sub e p => fun env env' M h => by
    simp only [dS]
    split
    · rename_i v hv
      rw [h.at_ i v hv]
      refine FS.toS (dE_sh ho e env env' M h) h fun w M1 => ?_
      rw [augV_sh]
      cases augV sub v w with
      | none => trivial
      | some y => exact FS.nx (h.set i y)
    · trivial
  | .afld a f x q sub e p => fun env env' M h => by
    simp only [dS]
    refine FS.toS (dE_sh ho a env env' M h) h fun w M1 => ?_
    rw [fldOf_sh]
    cases fldOf M1 w f with
    | none => trivial
    | some v =>
      simp only [Option.map_some]
      refine FS.toS (dE_sh ho e env env' M1 h) h fun u M2 => ?_
      rw [augV_sh]
      cases augV sub v u with
      | none => trivial
      | some y =>
        simp only [Option.map_some]
        rw [clsOf_sh, clsOf_sh]
        split
        · rw [setFld_sh]
          exact FS.ofO (M := M2) h
        · trivial
  | .expr e p => fun env env' M h => by
    simp only [dS]
    exact FS.toS (dE_sh ho e env env' M h) h fun v M1 => FS.nx h
  | .ret e p => fun env env' M h => by
    simp only [dS]
    exact FS.toS (dE_sh ho e env env' M h) h fun v M1 => rfl
  | .retN p => fun env env' M h => rfl
  | .pass p => fun env env' M h => FS.nx h
  | .brk p => fun env env' M h => ⟨env', rfl, h⟩
  | .cont p => fun env env' M h => ⟨env', rfl, h⟩
  | .ife c a b p => fun env env' M h => by
    simp only [dS]
    refine FS.toS (asB_fe ho c env env' M h) h fun k M1 => ?_
    cases k with
    | true => exact dSs_sh ho a env env' M1 h
    | false => exact dSs_sh ho b env env' M1 h
  | .whl c b p => fun env env' M h => by
    simp only [dS]
    exact whileL_sh (asB_fe ho c) (fun env env' M h => dSs_sh ho b env env' M h) _ env env' M h
  | .for_ tg it b p => fun env env' M h => by
    simp only [dS]
    exact FS.toS (dI_sh ho it env env' M h) h fun t M1 => forL_sh (fun env env' M h => dSs_sh ho b env env' M h) _ _ env env' M1 h
  | .rse c f x q e p2 p => fun env env' M h => by
    simp only [dS]
    exact FS.toS (dE_sh ho e env env' M h) h fun v M1 => ⟨env', rfl, h⟩
  | .try_ b d ds p => fun env env' M h => by
    simp only [dS]
    have q := dSs_sh ho b env env' M h
    cases hr : dSs o b env M with
    | bad => trivial
    | exc c v e M1 =>
      rw [hr] at q
      obtain ⟨e', q1, q2⟩ := q
      rw [q1]
      exact dHds_sh c v M1 q2 (d :: ds)
    | nx e M1 =>
      rw [hr] at q
      obtain ⟨e', q1, q2⟩ := q
      rw [q1]
      exact FS.nx q2
    | bk e M1 =>
      rw [hr] at q
      obtain ⟨e', q1, q2⟩ := q
      rw [q1]
      exact ⟨e', rfl, q2⟩
    | ct e M1 =>
      rw [hr] at q
      obtain ⟨e', q1, q2⟩ := q
      rw [q1]
      exact ⟨e', rfl, q2⟩
    | rt v M1 =>
      rw [hr] at q
      have q : _ = _ := q
      rw [q]
      rfl
theorem dSs_sh (ho : FO P o o') : ∀ s : Ss, FT P (dSs o s) (dSs o' s)
  | .nil => fun env env' M h => FS.nx h
  | .cons s ss => fun env env' M h => by
    simp only [dSs]
    have q := dS_sh ho s env env' M h
    cases hr : dS o s env M with
    | bad => trivial
    | nx e M1 =>
      rw [hr] at q
      obtain ⟨e', q1, q2⟩ := q
      rw [q1]
      exact dSs_sh ho ss e e' M1 q2
    | exc c v e M1 =>
      rw [hr] at q
      obtain ⟨e', q1, q2⟩ := q
      rw [q1]
      exact ⟨e', rfl, q2⟩
    | bk e M1 =>
      rw [hr] at q
      obtain ⟨e', q1, q2⟩ := q
      rw [q1]
      exact ⟨e', rfl, q2⟩
    | ct e M1 =>
      rw [hr] at q
      obtain ⟨e', q1, q2⟩ := q
      rw [q1]
      exact ⟨e', rfl, q2⟩
    | rt v M1 =>
      rw [hr] at q
      have q : _ = _ := q
      rw [q]
      rfl
end
/-! ### defs -/
theorem start_le (N : List Str) (vs : List Va) : LeE P.length (startE N vs) (startE N (shVs P.length vs)) := by
  refine ⟨by simp [startE, shVs_len], fun i v h => ?_⟩
  unfold startE at h ⊢
  by_cases hi : i < vs.length
  · rw [List.getElem?_append_left (by simpa using hi)] at h
    rw [List.getElem?_append_left (by simpa [shVs_len] using hi), shVs_map]
    rw [List.getElem?_map] at h
    rw [List.getElem?_map, List.getElem?_map]
    cases e : vs[i]? with
    | none => rw [e] at h; cases h
    | some u =>
      rw [e] at h
      simp only [Option.map_some, Option.some.injEq] at h
      subst h
      rfl
  · rw [List.getElem?_append_right (by simpa using Nat.le_of_not_lt hi)] at h
    rw [List.getElem?_replicate] at h
    split at h
    · simp at h
    · cases h
theorem toR_sh {r r' : Rs} (h : FS P r r') : FR P (shV P.length) r.toR r'.toR := by
  cases r with
  | bad => trivial
  | nx e M => obtain ⟨e', q, _⟩ := h; rw [q]; rfl
  | bk e M => trivial
  | ct e M => trivial
  | rt v M => have h : _ = _ := h; rw [h]; rfl
  | exc c v e M => obtain ⟨e', q, _⟩ := h; rw [q]; rfl
theorem runFn_sh (fs : Nat → Fn) (ho : FO P o o') (f : Nat) (vs : List Va) (M : Mem) : FR P (shV P.length) (runFn fs o f vs M) (runFn fs o' f (shVs P.length vs) (shM P M)) := by
  unfold runFn
  rw [shVs_len]
  split
  · exact toR_sh (dSs_sh ho _ _ _ M (start_le _ vs))
  · trivial
/-- a deeper level does the same -/
theorem orcN_sh (fs : Nat → Fn) : ∀ (n m : Nat), FO P (orcN fs n) (orcN fs (n + m))
  | 0, m => ⟨fun _ _ _ => trivial, fun _ _ _ => trivial⟩
  | n + 1, m => by
    have ih := orcN_sh fs n m
    rw [show n + 1 + m = (n + m) + 1 by omega]
    exact ⟨fun f vs M => runFn_sh fs ih f vs M, fun f vs M => ih.cl f vs M⟩
end
end Dn
/-! What the checks of programs.py say, in plain Lean. -/
namespace Pr
open Dn
abbrev W := List Nat
def wRun : W := [114, 117, 110]
def wGive : W := [103, 105, 118, 101]
def wZero : W := [122, 101, 114, 111]
def wKeep : W := [107, 101, 101, 112]
def wCall : W := [99, 97, 108, 108]
def wStatus : W := [115, 116, 97, 116, 117, 115]
def wPut : W := [112, 117, 116]
def wOption : W := [111, 112, 116, 105, 111, 110]
def wFail : W := [102, 97, 105, 108]
def wPipes : W := [112, 105, 112, 101, 115]
def wSeq : W := [115, 101, 113]
def wPipe : W := [112, 105, 112, 101]
def wAnd : W := [97, 110, 100]
def wOr : W := [111, 114]
def wWhile : W := [119, 104, 105, 108, 101]
def wUntil : W := [117, 110, 116, 105, 108]
def wNot : W := [110, 111, 116]
def wSub : W := [115, 117, 98]
def wIf : W := [105, 102]
def wTimes : W := [116, 105, 109, 101, 115]
def wTrap : W := [116, 114, 97, 112]
def wEnd : W := [101, 110, 100]
def wBreak : W := [98, 114, 101, 97, 107]
def wNext : W := [110, 101, 120, 116]
def wReturn : W := [114, 101, 116, 117, 114, 110]
def wExit : W := [101, 120, 105, 116]
def inW (w : W) (ws : List W) : Bool := ws.any fun y => y == w
def letters : List Nat := [97, 98, 99, 100, 101, 102, 103, 104, 105, 106, 107, 108, 109, 110, 111, 112, 113, 114, 115, 116, 117, 118, 119, 120, 121, 122]
def reserved : List W := [[100, 101, 102], wCall, wStatus, wGive, wZero, wKeep, wPut, wOption, wTrap, [111, 110], [111, 102, 102], wIf, [116, 104, 101, 110], [101, 108, 115, 101], wWhile, wUntil, wTimes, [100, 111], wEnd, wBreak, wNext, wReturn, wExit, wFail, wPipes]
mutual
/-- data that the checks can be asked about: no references, no too long texts or tuples -/
def vok : Va → Bool
  | .tup xs => decide (xs.length ≤ PySem.sizeLine) && voks xs
  | .lst xs => decide (xs.length ≤ PySem.sizeLine) && voks xs
  | .str s => decide (s.length ≤ PySem.sizeLine) && sok s
  | .ref _ => false
  | _ => true
def voks : List Va → Bool
  | [] => true
  | x :: xs => vok x && voks xs
end
def intV : Va → Bool
  | .int _ => true
  | _ => false
def strV : Va → Bool
  | .str _ => true
  | _ => false
def blV : Va → Bool
  | .bl _ => true
  | _ => false
def tupV : Va → Bool
  | .tup _ => true
  | _ => false
def betw (v : Va) (lo hi : Int) : Bool := match v with
  | .int i => decide (lo ≤ i) && decide (i ≤ hi)
  | _ => false
def nameS (s : W) : Bool := decide (1 ≤ s.length) && decide (s.length ≤ 12) && !(inW s reserved) && s.all fun c => letters.any (· == c)
def nameV : Va → Bool
  | .str s => nameS s
  | _ => false
def numN : Va → Bool
  | .non => true
  | v => betw v 0 255
def wordV (ws : List W) : Va → Bool
  | .str s => inW s ws
  | _ => false
abbrev Kn := List (Sum Int W × Va)
def knownV (kn : Kn) : Va → Bool
  | .str s => (look kn (.inr s)).isSome
  | _ => false
def leafV (w : W) (xs : List Va) (kn : Kn) : Bool :=
  if inW w [wRun, wGive, wZero, wKeep] then match xs with
    | [_, b] => nameV b
    | _ => false
  else if w == wCall then match xs with
    | [_, b] => knownV kn b
    | _ => false
  else if w == wStatus then match xs with
    | [_, b] => betw b 0 255
    | _ => false
  else if w == wPut then match xs with
    | [_, b, c] => nameV b && betw c 0 255
    | _ => false
  else (w == wOption) && match xs with
    | [_, b, c] => wordV [wFail, wPipes] b && blV c
    | _ => false
def nodeV (w : W) (xs : List Va) : Bool :=
  if inW w [wSeq, wPipe] then match xs with
    | [_, .tup ys] => decide (2 ≤ ys.length)
    | _ => false
  else if inW w [wAnd, wOr, wWhile, wUntil] then decide (xs.length = 3)
  else if inW w [wNot, wSub] then decide (xs.length = 2)
  else if w == wIf then decide (xs.length = 4)
  else if w == wTimes then match xs with
    | [_, b, _] => betw b 0 1000
    | _ => false
  else (w == wTrap) && match xs with
    | [_, b, _] => wordV [wEnd, wFail] b
    | _ => false
def jumpV (w : W) (xs : List Va) (loops : Int) (within : Bool) : Bool :=
  if inW w [wBreak, wNext] then match xs with
    | [_, b] => betw b 1 loops
    | _ => false
  else if w == wReturn then match xs with
    | [_, b] => within && numN b
    | _ => false
  else (w == wExit) && match xs with
    | [_, b] => numN b
    | _ => false
def kidsV (w : W) (xs : List Va) : List Va :=
  if inW w [wSeq, wPipe] then match xs with
    | [_, .tup ys] => ys
    | _ => []
  else if inW w [wAnd, wOr, wWhile, wUntil] then match xs with
    | [_, a, b] => [a, b]
    | _ => []
  else if w == wIf then match xs with
    | [_, a, b, c] => a :: b :: [c].filter fun v => !v.isNon
    | _ => []
  else if inW w [wNot, wSub] then match xs with
    | [_, a] => [a]
    | _ => []
  else if w == wTimes then match xs with
    | [_, _, b] => [b]
    | _ => []
  else if w == wTrap then match xs with
    | [_, _, b] => if b.isNon then [] else [b]
    | _ => []
  else []
/-- the count, the names of variables; a fault's path -/
abbrev St := Int × Kn
abbrev Out := St × Option (List Va)
def kidsP (f : Va → List Va → St → Out) (path : List Va) : Nat → List Va → St → Out
  | _, [], st => (st, none)
  | i, kid :: r, st => match f kid (path ++ [.int (i : Nat)]) st with
    | (st', none) => kidsP f path (i + 1) r st'
    | (st', some p) => (st', some p)
def loopsOf (w : W) (loops : Int) : Int := if inW w [wSub, wPipe, wTrap] then 0 else if inW w [wWhile, wUntil, wTimes] then loops + 1 else loops
def withinOf (w : W) (within : Bool) : Bool := if inW w [wSub, wPipe, wTrap] then false else within
def lookP (kn : Kn) : Nat → Va → List Va → Int → Bool → St → Out
  | 0, _, _, _, _, st => (st, none)
  | k + 1, tree, path, loops, within, (cnt, nms) =>
    if 3000 < cnt + 1 then ((cnt + 1, nms), some [])
    else if 60 < path.length then ((cnt + 1, nms), some path)
    else match tree with
      | .tup (.str w :: r) =>
        if leafV w (.str w :: r) kn || jumpV w (.str w :: r) loops within then
          (if inW w [wGive, wZero, wKeep, wPut] then match r with
            | .str s :: _ => ((cnt + 1, put nms (.inr s) (.bl true)), none)
            | _ => ((cnt + 1, nms), none)
          else ((cnt + 1, nms), none))
        else if nodeV w (.str w :: r) then kidsP (fun kid p st => lookP kn k kid p (loopsOf w loops) (withinOf w within) st) path 0 (kidsV w (.str w :: r)) (cnt + 1, nms)
        else ((cnt + 1, nms), some path)
      | _ => ((cnt + 1, nms), some path)
theorem isi_str {M : Mem} {v : Va} (h : vok v = true) : isiOf M v .str = some (strV v) := by
  cases v <;> first | rfl | cases h
theorem isi_int {M : Mem} {v : Va} (h : vok v = true) : isiOf M v .int = some (intV v || blV v) := by
  cases v <;> first | rfl | cases h
theorem isi_bool {M : Mem} {v : Va} (h : vok v = true) : isiOf M v .bool = some (blV v) := by
  cases v <;> first | rfl | cases h
theorem isi_tuple {M : Mem} {v : Va} (h : vok v = true) : isiOf M v .tuple = some (tupV v) := by
  cases v <;> first | rfl | cases h
theorem voks_mem : ∀ {xs : List Va} {v : Va}, voks xs = true → v ∈ xs → vok v = true
  | x :: xs, v, h, hv => by
    simp only [voks, Bool.and_eq_true] at h
    rcases List.mem_cons.mp hv with e | hv
    · rw [e]; exact h.1
    · exact voks_mem h.2 hv
theorem blsOf_map {α : Type} (f : α → Bool) : ∀ l : List α, blsOf (l.map fun c => .bl (f c)) = some (l.map f)
  | [] => rfl
  | a :: l => by
    rw [List.map_cons, List.map_cons, blsOf, blsOf_map f l]
    rfl
end Pr
/-! Sizes of trees, in plain Lean. -/
namespace Pr
open Dn
def nodeW (w : W) : Bool := inW w [wSeq, wPipe, wAnd, wOr, wWhile, wUntil, wNot, wSub, wIf, wTimes, wTrap]
def sumO : List (Option Int) → Option Int
  | [] => some 0
  | none :: _ => none
  | some i :: r => (sumO r).map (i + ·)
def sizeP (sz : Kn) : Nat → Va → Option Int
  | 0, _ => none
  | k + 1, tree => match tree with
    | .tup (.str w :: r) =>
      if nodeV w (.str w :: r) || !nodeW w then match sumO ((kidsV w (.str w :: r)).map (sizeP sz k)) with
        | none => none
        | some t =>
          if w == wCall then match r with
            | .str s :: _ => match look sz (.inr s) with
              | some (.int z) => some (1 + z)
              | _ => none
            | _ => none
          else if w == wTimes then match r with
            | .int i :: _ => if i64 i then some (1 + i * t) else none
            | _ => none
          else some (1 + t)
      else none
    | _ => none
/-- how many trees -/
def cntP : Nat → Va → Option Int
  | 0, _ => none
  | k + 1, tree => match tree with
    | .tup (.str w :: r) => if nodeV w (.str w :: r) || !nodeW w then (sumO ((kidsV w (.str w :: r)).map (cntP k))).map (1 + ·) else none
    | _ => none
/-- the names that may be called have sizes -/
def Covers (kn sz : Kn) : Prop := ∀ s, (look kn (.inr s)).isSome = true → ∃ z, look sz (.inr s) = some (.int z)
theorem leaf_not_node {w : W} {r : List Va} {kn : Kn} {loops : Int} {within : Bool} (h : (leafV w (.str w :: r) kn || jumpV w (.str w :: r) loops within) = true) : nodeW w = false := by
  cases hn : nodeW w with
  | false => rfl
  | true =>
    exfalso
    simp only [nodeW, inW, List.any_cons, List.any_nil, Bool.or_false, Bool.or_eq_true, beq_iff_eq] at hn
    rcases hn with rfl | rfl | rfl | rfl | rfl | rfl | rfl | rfl | rfl | rfl | rfl <;> simp [leafV, jumpV, inW, wRun, wGive, wZero, wKeep, wCall, wStatus, wPut, wOption, wFail, wPipes, wSeq, wPipe, wAnd, wOr, wWhile, wUntil, wNot, wSub, wIf, wTimes, wTrap, wEnd, wBreak, wNext, wReturn, wExit] at h
theorem kids_none {w : W} {xs : List Va} (h : nodeW w = false) : kidsV w xs = [] := by
  simp only [nodeW, inW, List.any_cons, List.any_nil, Bool.or_false, Bool.or_eq_false_iff, beq_eq_false_iff_ne, ne_eq] at h
  obtain ⟨h1, h2, h3, h4, h5, h6, h7, h8, h9, h10, h11⟩ := h
  unfold kidsV inW
  have e9 : ¬ w = wIf := fun e => h9 e.symm
  have e10 : ¬ w = wTimes := fun e => h10 e.symm
  have e11 : ¬ w = wTrap := fun e => h11 e.symm
  simp [h1, h2, h3, h4, h5, h6, h7, h8, e9, e10, e11]
theorem kidsP_all {f : Va → List Va → St → Out} {path : List Va} {P : Va → Prop} (hf : ∀ v p st st', f v p st = (st', none) → P v) : ∀ (xs : List Va) (i : Nat) (st st' : St), kidsP f path i xs st = (st', none) → ∀ v ∈ xs, P v
  | [], i, st, st', h, v, hv => by cases hv
  | x :: xs, i, st, st', h, v, hv => by
    unfold kidsP at h
    cases e : f x (path ++ [.int (i : Nat)]) st with
    | mk st1 o =>
      rw [e] at h
      cases o with
      | some p => cases h
      | none =>
        rcases List.mem_cons.mp hv with q | hv
        · rw [q]; exact hf x _ _ _ e
        · exact kidsP_all hf xs (i + 1) st1 st' h v hv
theorem kidsP_lens {f : Va → List Va → St → Out} {path : List Va} {P : Va → Prop} (hf : ∀ v (i : Nat) st st', f v (path ++ [.int (i : Nat)]) st = (st', none) → P v) : ∀ (xs : List Va) (i : Nat) (st st' : St), kidsP f path i xs st = (st', none) → ∀ v ∈ xs, P v
  | [], i, st, st', h, v, hv => by cases hv
  | x :: xs, i, st, st', h, v, hv => by
    unfold kidsP at h
    cases e : f x (path ++ [.int (i : Nat)]) st with
    | mk st1 o =>
      rw [e] at h
      cases o with
      | some p => cases h
      | none =>
        rcases List.mem_cons.mp hv with q | hv
        · rw [q]; exact hf x _ _ _ e
        · exact kidsP_lens hf xs (i + 1) st1 st' h v hv
theorem sumO_some {α : Type} {f : α → Option Int} : ∀ {l : List α}, (∀ v ∈ l, ∃ z, f v = some z) → ∃ z, sumO (l.map f) = some z
  | [], _ => ⟨0, rfl⟩
  | a :: l, h => by
    obtain ⟨z, e⟩ := h a List.mem_cons_self
    obtain ⟨y, e2⟩ := sumO_some (f := f) (l := l) fun v hv => h v (List.mem_cons_of_mem _ hv)
    exact ⟨z + y, by rw [List.map_cons, e, sumO, e2]; rfl⟩
theorem betw_i64 {b : Va} (h : betw b 0 1000 = true) : ∃ i, b = .int i ∧ i64 i = true ∧ 0 ≤ i ∧ i ≤ 1000 := by
  cases b with
  | int i =>
    simp only [betw, Bool.and_eq_true, decide_eq_true_eq] at h
    refine ⟨i, rfl, ?_, h.1, h.2⟩
    simp only [i64, Bool.and_eq_true, decide_eq_true_eq]
    omega
  | _ => cases h
theorem lookP_succ' (kn : Kn) (k : Nat) (tree : Va) (path : List Va) (loops : Int) (within : Bool) (cnt : Int) (nms : Kn) : lookP kn (k + 1) tree path loops within (cnt, nms) =
    (if 3000 < cnt + 1 then ((cnt + 1, nms), some [])
    else if 60 < path.length then ((cnt + 1, nms), some path)
    else match tree with
      | .tup (.str w :: r) =>
        if leafV w (.str w :: r) kn || jumpV w (.str w :: r) loops within then
          (if inW w [wGive, wZero, wKeep, wPut] then match r with
            | .str s :: _ => ((cnt + 1, put nms (.inr s) (.bl true)), none)
            | _ => ((cnt + 1, nms), none)
          else ((cnt + 1, nms), none))
        else if nodeV w (.str w :: r) then kidsP (fun kid p st => lookP kn k kid p (loopsOf w loops) (withinOf w within) st) path 0 (kidsV w (.str w :: r)) (cnt + 1, nms)
        else ((cnt + 1, nms), some path)
      | _ => ((cnt + 1, nms), some path)) := rfl
/-- a tree that was let by: a leaf or a node -/
theorem look_cases {kn : Kn} {k : Nat} {tree : Va} {path : List Va} {loops : Int} {within : Bool} {cnt : Int} {nms : Kn} {st' : St} (h : lookP kn (k + 1) tree path loops within (cnt, nms) = (st', none)) :
    cnt + 1 ≤ 3000 ∧ path.length ≤ 60 ∧ ∃ w r, tree = .tup (.str w :: r) ∧
      (((leafV w (.str w :: r) kn || jumpV w (.str w :: r) loops within) = true ∧ st'.1 = cnt + 1) ∨
       (nodeV w (.str w :: r) = true ∧ (leafV w (.str w :: r) kn || jumpV w (.str w :: r) loops within) = false ∧ kidsP (fun kid p st => lookP kn k kid p (loopsOf w loops) (withinOf w within) st) path 0 (kidsV w (.str w :: r)) (cnt + 1, nms) = (st', none))) := by
  rw [lookP_succ'] at h
  split at h
  · cases h
  · rename_i g1
    split at h
    · cases h
    · rename_i g2
      refine ⟨by omega, by omega, ?_⟩
      split at h
      · rename_i w r
        refine ⟨w, r, rfl, ?_⟩
        split at h
        · rename_i g3
          refine .inl ⟨g3, ?_⟩
          split at h
          · split at h
            · cases h; rfl
            · cases h; rfl
          · cases h; rfl
        · rename_i g3
          split at h
          · rename_i g4
            exact .inr ⟨g4, by simpa using g3, h⟩
          · cases h
      · cases h
theorem leaf_call {w : W} {r : List Va} {kn : Kn} {loops : Int} {within : Bool} (h : (leafV w (.str w :: r) kn || jumpV w (.str w :: r) loops within) = true) (hw : (w == wCall) = true) : ∃ s, r = [.str s] ∧ (look kn (.inr s)).isSome = true := by
  have e := eq_of_beq hw
  subst e
  rcases r with _ | ⟨b, _ | ⟨c, t⟩⟩
  · simp [leafV, jumpV, inW, wRun, wGive, wZero, wKeep, wCall, wBreak, wNext, wReturn, wExit] at h
  · cases b with
    | str s =>
      refine ⟨s, rfl, ?_⟩
      simpa [leafV, jumpV, inW, wRun, wGive, wZero, wKeep, wCall, wBreak, wNext, wReturn, wExit, knownV] using h
    | _ => simp [leafV, jumpV, inW, wRun, wGive, wZero, wKeep, wCall, wBreak, wNext, wReturn, wExit, knownV] at h
  · simp [leafV, jumpV, inW, wRun, wGive, wZero, wKeep, wCall, wBreak, wNext, wReturn, wExit] at h
theorem node_times {w : W} {r : List Va} (h : nodeV w (.str w :: r) = true) (hw : (w == wTimes) = true) : ∃ i b, r = [.int i, b] ∧ i64 i = true := by
  have e := eq_of_beq hw
  subst e
  rcases r with _ | ⟨b, _ | ⟨c, _ | ⟨d, t⟩⟩⟩
  · simp [nodeV, inW, wSeq, wPipe, wAnd, wOr, wWhile, wUntil, wNot, wSub, wIf, wTimes] at h
  · simp [nodeV, inW, wSeq, wPipe, wAnd, wOr, wWhile, wUntil, wNot, wSub, wIf, wTimes] at h
  · have h' : betw b 0 1000 = true := by simpa [nodeV, inW, wSeq, wPipe, wAnd, wOr, wWhile, wUntil, wNot, wSub, wIf, wTimes] using h
    obtain ⟨i, e, e2, _⟩ := betw_i64 h'
    subst e
    exact ⟨i, c, rfl, e2⟩
  · simp [nodeV, inW, wSeq, wPipe, wAnd, wOr, wWhile, wUntil, wNot, wSub, wIf, wTimes] at h
/-- what was let by has a size -/
theorem look_size {kn sz : Kn} (hc : Covers kn sz) : ∀ (k : Nat) (tree : Va) (path : List Va) (loops : Int) (within : Bool) (st st' : St), lookP kn k tree path loops within st = (st', none) → 62 ≤ path.length + k → path.length ≤ 61 → ∃ z, sizeP sz k tree = some z
  | 0, _, _, _, _, _, _, _, h1, h2 => by omega
  | k + 1, tree, path, loops, within, (cnt, nms), st', h, h1, h2 => by
    obtain ⟨g1, g2, w, r, rfl, hh⟩ := look_cases h
    unfold sizeP
    dsimp only
    rcases hh with ⟨hl, _⟩ | ⟨hn, hl, hk⟩
    · have hw := leaf_not_node hl
      rw [hw, kids_none hw]
      simp only [Bool.not_false, Bool.or_true, if_true, List.map_nil, sumO]
      cases hcall : (w == wCall) with
      | true =>
        obtain ⟨s, rfl, hs⟩ := leaf_call hl hcall
        obtain ⟨z, hz⟩ := hc s hs
        rw [if_pos rfl]
        simp only [hz]
        exact ⟨_, rfl⟩
      | false =>
        rw [if_neg Bool.false_ne_true]
        cases ht : (w == wTimes) with
        | true =>
          have e := eq_of_beq ht
          subst e
          exact absurd hw (by decide)
        | false => exact ⟨_, rfl⟩
    · have kid : ∀ v ∈ kidsV w (.str w :: r), ∃ z, sizeP sz k v = some z := by
        have key := kidsP_lens (P := fun v => ∃ z, sizeP sz k v = some z) (f := fun kid p st => lookP kn k kid p (loopsOf w loops) (withinOf w within) st) (path := path) (fun v i st st' e => look_size hc k v (path ++ [.int (i : Nat)]) _ _ st st' e (by rw [List.length_append, List.length_singleton]; omega) (by rw [List.length_append, List.length_singleton]; omega))
        exact key _ 0 _ _ hk
      obtain ⟨t, ht⟩ := sumO_some kid
      rw [hn, ht]
      simp only [Bool.true_or, if_true]
      cases hcall : (w == wCall) with
      | true =>
        have e := eq_of_beq hcall
        subst e
        simp [nodeV, inW, wSeq, wPipe, wAnd, wOr, wWhile, wUntil, wNot, wSub, wIf, wTimes, wTrap, wCall] at hn
      | false =>
        rw [if_neg Bool.false_ne_true]
        cases htm : (w == wTimes) with
        | true =>
          obtain ⟨i, b, rfl, hi⟩ := node_times hn htm
          rw [if_pos rfl]
          simp only [hi, if_true]
          exact ⟨_, rfl⟩
        | false => exact ⟨_, rfl⟩
theorem sumO_cons {z t : Int} {r : List (Option Int)} (h : sumO r = some t) : sumO (some z :: r) = some (z + t) := by
  rw [sumO, h]
  rfl
theorem kidsP_cnt {f : Va → List Va → St → Out} {path : List Va} {g : Va → Option Int} (hf : ∀ v (i : Nat) st st', f v (path ++ [.int (i : Nat)]) st = (st', none) → ∃ z, g v = some z ∧ st'.1 = st.1 + z) : ∀ (xs : List Va) (i : Nat) (st st' : St), kidsP f path i xs st = (st', none) →
    ∃ z, sumO (xs.map g) = some z ∧ st'.1 = st.1 + z
  | [], i, st, st', h => by
    unfold kidsP at h
    cases h
    exact ⟨0, rfl, by omega⟩
  | x :: xs, i, st, st', h => by
    unfold kidsP at h
    cases e : f x (path ++ [.int (i : Nat)]) st with
    | mk st1 o =>
      rw [e] at h
      cases o with
      | some p => cases h
      | none =>
        obtain ⟨z, h1, h2⟩ := hf x i _ _ e
        obtain ⟨t, h3, h4⟩ := kidsP_cnt hf xs (i + 1) st1 st' h
        exact ⟨z + t, by rw [List.map_cons, h1]; exact sumO_cons h3, by omega⟩
/-- the count goes on by the number of trees -/
theorem look_cnt {kn : Kn} : ∀ (k : Nat) (tree : Va) (path : List Va) (loops : Int) (within : Bool) (st st' : St), lookP kn k tree path loops within st = (st', none) → 62 ≤ path.length + k → path.length ≤ 61 → ∃ z, cntP k tree = some z ∧ st'.1 = st.1 + z
  | 0, _, _, _, _, _, _, _, h1, h2 => by omega
  | k + 1, tree, path, loops, within, (cnt, nms), st', h, h1, h2 => by
    obtain ⟨g1, g2, w, r, rfl, hh⟩ := look_cases h
    unfold cntP
    dsimp only
    rcases hh with ⟨hl, hs⟩ | ⟨hn, hl, hk⟩
    · have hw := leaf_not_node hl
      rw [hw, kids_none hw]
      exact ⟨1, by simp [sumO], hs⟩
    · obtain ⟨z, h3, h4⟩ := kidsP_cnt (g := cntP k) (fun v i st st' e => look_cnt k v (path ++ [.int (i : Nat)]) _ _ st st' e (by rw [List.length_append, List.length_singleton]; omega) (by rw [List.length_append, List.length_singleton]; omega)) _ 0 _ _ hk
      rw [hn, h3]
      exact ⟨1 + z, rfl, by rw [h4]; show cnt + 1 + z = cnt + (1 + z); omega⟩
theorem sumO_nonneg : ∀ {l : List (Option Int)} {z : Int}, (∀ q ∈ l, ∀ y, q = some y → 0 ≤ y) → sumO l = some z → 0 ≤ z
  | [], z, _, h => by cases h; omega
  | none :: _, z, _, h => by cases h
  | some i :: r, z, h0, h => by
    rw [sumO] at h
    obtain ⟨t, h1, h2⟩ := Option.map_eq_some_iff.mp h
    have a := h0 (some i) List.mem_cons_self i rfl
    have b := sumO_nonneg (fun q hq => h0 q (List.mem_cons_of_mem _ hq)) h1
    omega
theorem cntP_pos : ∀ (k : Nat) (tree : Va) (z : Int), cntP k tree = some z → 1 ≤ z
  | 0, _, _, h => by cases h
  | k + 1, tree, z, h => by
    unfold cntP at h
    split at h
    · split at h
      · obtain ⟨t, h1, h2⟩ := Option.map_eq_some_iff.mp h
        have := sumO_nonneg (fun q hq y e => by
          obtain ⟨v, _, rfl⟩ := List.mem_map.mp hq
          have := cntP_pos k v y e
          omega) h1
        omega
      · cases h
    · cases h
end Pr
namespace Pr
open Dn
/-- the sizes of the functions, one after the other -/
def sizesP (k : Nat) : Kn → List Va → Option Kn
  | sz, [] => some sz
  | sz, f :: r => match f with
    | .tup [.str nm, body] => match sizeP sz k body with
      | some z => sizesP k (put sz (.inr nm) (.int z)) r
      | none => none
    | _ => none
def unfP (k : Nat) (fs : List Va) (main : Va) : Option Int := match sizesP k [] fs with
  | some sz => sizeP sz k main
  | none => none
theorem put_len (l : Kn) (k : Sum Int W) (v : Va) : (put l k v).length ≤ l.length + 1 := by
  induction l with
  | nil => simp [put]
  | cons q r ih =>
    obtain ⟨a, u⟩ := q
    unfold put
    split
    · simp
    · simp only [List.length_cons]; omega
end Pr
/-! The trees of a program in preorder, in plain Lean. -/
namespace Pr
open Dn
abbrev Ent := Nat × List Va × Va
def entV (e : Ent) : Va := .tup [.tup e.2.1, e.2.2]
def kidEnts (k : Nat) (path : List Va) : Nat → List Va → List Ent
  | _, [] => []
  | i, kid :: r => (k, path ++ [.int (i : Nat)], kid) :: kidEnts k path (i + 1) r
def kidsT : Va → List Va
  | .tup (.str w :: r) => kidsV w (.str w :: r)
  | _ => []
def kidsF (f : List Va → Va → List Va) (path : List Va) : Nat → List Va → List Va
  | _, [] => []
  | i, kid :: r => f (path ++ [.int (i : Nat)]) kid ++ kidsF f path (i + 1) r
def treesP : Nat → List Va → Va → List Va
  | 0, _, _ => []
  | k + 1, path, tree => .tup [.tup path, tree] :: kidsF (treesP k) path 0 (kidsT tree)
def outE (e : Ent) : List Va := treesP e.1 e.2.1 e.2.2
theorem kidsF_eq (k : Nat) (path : List Va) : ∀ (kids : List Va) (i : Nat), kidsF (treesP k) path i kids = (kidEnts k path i kids).flatMap outE
  | [], i => rfl
  | a :: r, i => by
    rw [kidsF, kidEnts, List.flatMap_cons, kidsF_eq k path r (i + 1)]
    rfl
theorem kidEnts_get (k : Nat) (path : List Va) : ∀ (kids : List Va) (i j : Nat), (kidEnts k path i kids)[j]? = kids[j]?.map fun v => (k, path ++ [.int ((i + j : Nat) : Int)], v)
  | [], i, j => by simp [kidEnts]
  | a :: r, i, 0 => by simp [kidEnts]
  | a :: r, i, j + 1 => by
    rw [kidEnts, List.getElem?_cons_succ, kidEnts_get k path r (i + 1) j, List.getElem?_cons_succ, show i + 1 + j = i + (j + 1) by omega]
theorem kidEnts_len (k : Nat) (path : List Va) : ∀ (kids : List Va) (i : Nat), (kidEnts k path i kids).length = kids.length
  | [], i => rfl
  | a :: r, i => by rw [kidEnts, List.length_cons, List.length_cons, kidEnts_len k path r (i + 1)]
theorem kidEnts_mem {k : Nat} {path : List Va} : ∀ {kids : List Va} {i : Nat} {e : Ent}, e ∈ kidEnts k path i kids → e.1 = k ∧ e.2.1.length = path.length + 1 ∧ e.2.2 ∈ kids
  | a :: r, i, e, h => by
    rw [kidEnts] at h
    rcases List.mem_cons.mp h with q | h
    · subst q
      exact ⟨rfl, by simp, List.mem_cons_self⟩
    · obtain ⟨h1, h2, h3⟩ := kidEnts_mem h
      exact ⟨h1, h2, List.mem_cons_of_mem _ h3⟩
theorem kidsF_len {f : List Va → Va → List Va} {g : Va → Option Int} (hf : ∀ p v z, g v = some z → ((f p v).length : Int) = z) (path : List Va) : ∀ (kids : List Va) (i : Nat) (z : Int), sumO (kids.map g) = some z → ((kidsF f path i kids).length : Int) = z
  | [], i, z, h => by cases h; rfl
  | a :: r, i, z, h => by
    rw [List.map_cons] at h
    cases e : g a with
    | none => rw [e] at h; cases h
    | some y =>
      rw [e, sumO] at h
      obtain ⟨t, h1, h2⟩ := Option.map_eq_some_iff.mp h
      have a1 := hf (path ++ [.int (i : Nat)]) a y e
      have a2 := kidsF_len hf path r (i + 1) t h1
      rw [kidsF, List.length_append]
      omega
theorem treesP_len : ∀ (k : Nat) (path : List Va) (tree : Va) (z : Int), cntP k tree = some z → ((treesP k path tree).length : Int) = z
  | 0, _, _, _, h => by cases h
  | k + 1, path, tree, z, h => by
    unfold cntP at h
    split at h
    · rename_i w r
      split at h
      · obtain ⟨t, h1, h2⟩ := Option.map_eq_some_iff.mp h
        have := kidsF_len (treesP_len k) path (kidsV w (.str w :: r)) 0 t h1
        rw [treesP, List.length_cons]
        show ((kidsF (treesP k) path 0 (kidsV w (.str w :: r))).length + 1 : Nat) = z
        omega
      · cases h
    · cases h
/-- what trees_of can be asked about -/
def TOk (e : Ent) : Prop := (∃ z, cntP e.1 e.2.2 = some z) ∧ vok e.2.2 = true ∧ vdep e.2.2 ≤ 61 ∧ e.2.1.length + e.1 ≤ 100
theorem TOk.pos {e : Ent} (h : TOk e) : 1 ≤ (outE e).length := by
  obtain ⟨⟨z, hz⟩, _⟩ := h
  have := treesP_len e.1 e.2.1 e.2.2 z hz
  have := cntP_pos _ _ _ hz
  unfold outE
  omega
theorem sumO_ev {α : Type} {f : α → Option Int} : ∀ {l : List α} {t : Int}, sumO (l.map f) = some t → ∀ v ∈ l, ∃ z, f v = some z
  | a :: l, t, h, v, hv => by
    rw [List.map_cons] at h
    cases e : f a with
    | none => rw [e] at h; cases h
    | some z =>
      rw [e, sumO] at h
      obtain ⟨y, h1, h2⟩ := Option.map_eq_some_iff.mp h
      rcases List.mem_cons.mp hv with q | hv
      · rw [q]; exact ⟨z, e⟩
      · exact sumO_ev h1 v hv
theorem vdeps_mem : ∀ {xs : List Va} {v : Va}, v ∈ xs → vdep v ≤ vdeps xs
  | x :: xs, v, h => by
    rw [vdeps]
    rcases List.mem_cons.mp h with q | h
    · subst q; omega
    · have := vdeps_mem h; omega
theorem kidsV_sub {w : W} {xs : List Va} {v : Va} (h : v ∈ kidsV w xs) : v ∈ xs ∨ ∃ ys, Va.tup ys ∈ xs ∧ v ∈ ys := by
  unfold kidsV at h
  repeat' split at h
  all_goals first
    | (exact absurd h List.not_mem_nil)
    | (left; simp only [List.mem_cons, List.mem_filter, List.not_mem_nil, or_false] at h ⊢; rcases h with h | h | h <;> simp [h]; done)
    | (left; simp only [List.mem_cons, List.mem_filter, List.not_mem_nil, or_false] at h ⊢; rcases h with h | h <;> simp [h]; done)
    | (left; simp only [List.mem_cons, List.mem_filter, List.not_mem_nil, or_false] at h ⊢; simp [h]; done)
    | (refine .inr ⟨_, ?_, h⟩; simp; done)
theorem kids_dep {w : W} {r : List Va} {v : Va} (h : v ∈ kidsV w (.str w :: r)) : vdep v ≤ vdep (.tup (.str w :: r)) := by
  rw [vdep]
  rcases kidsV_sub h with h | ⟨ys, h1, h2⟩
  · have := vdeps_mem h; omega
  · have a := vdeps_mem h1
    have b := vdeps_mem h2
    rw [vdep] at a
    omega
end Pr
/-! The check of a whole program, in plain Lean. -/
namespace Pr
open Dn
def stepP (i : Nat) (kn : Kn) (st : St) (f : Va) : Except (List Va) (Kn × St) := match f with
  | .tup [.str nm, body] => if nameS nm && !(look kn (.inr nm)).isSome then match lookP kn 61 body [.int (i : Nat)] 0 true st with
      | (st', none) => .ok (put kn (.inr nm) (.bl true), st')
      | (_, some p) => .error p
    else .error [.int (i : Nat)]
  | _ => .error [.int (i : Nat)]
def funsP : Nat → Kn → St → List Va → Except (List Va) (Kn × St)
  | _, kn, st, [] => .ok (kn, st)
  | i, kn, st, f :: r => match stepP i kn st f with
    | .ok (kn', st') => funsP (i + 1) kn' st' r
    | .error p => .error p
/-- none: a program; some p: a fault -/
def reqP : Va → Option (List Va)
  | .tup [.tup fs, main] => if 20 < fs.length then some [] else match funsP 0 [] (0, []) fs with
    | .error p => some p
    | .ok (kn, st) => match lookP kn 61 main [.int (-1)] 0 false st with
      | (_, some p) => some p
      | (st', none) => if 40 < st'.2.length then some [] else match unfP 61 fs main with
        | some z => if 3000 < z then some [] else none
        | none => some []
  | _ => some []
theorem look_put_self (kn : Kn) (k : Sum Int W) (v : Va) : look (put kn k v) k = some v := by
  induction kn with
  | nil => simp [put, look]
  | cons q r ih =>
    obtain ⟨a, u⟩ := q
    unfold put
    split
    · rename_i e; simp [look, e]
    · rename_i e; simp [look, e, ih]
theorem look_put_ne (kn : Kn) {k j : Sum Int W} (h : k ≠ j) (v : Va) : look (put kn k v) j = look kn j := by
  induction kn with
  | nil => simp [put, look, h]
  | cons q r ih =>
    obtain ⟨a, u⟩ := q
    unfold put
    split
    · rename_i e; subst e; simp [look, h]
    · rename_i e
      simp only [look, ih]
theorem Covers.put {kn sz : Kn} (h : Covers kn sz) (nm : W) (v : Va) (z : Int) : Covers (put kn (.inr nm) v) (Dn.put sz (.inr nm) (.int z)) := by
  intro s hs
  by_cases e : (Sum.inr nm : Sum Int W) = .inr s
  · rw [← e, look_put_self]; exact ⟨z, rfl⟩
  · rw [look_put_ne _ e] at hs ⊢
    exact h s hs
theorem Covers.nil : Covers [] [] := fun s h => by simp [look] at h
theorem funs_sizes : ∀ (fs : List Va) (i : Nat) (kn sz : Kn) (st : St) (kn' : Kn) (st' : St), Covers kn sz → funsP i kn st fs = .ok (kn', st') → ∃ sz', sizesP 61 sz fs = some sz' ∧ Covers kn' sz'
  | [], i, kn, sz, st, kn', st', hc, h => by
    cases h
    exact ⟨sz, rfl, hc⟩
  | f :: r, i, kn, sz, st, kn', st', hc, h => by
    unfold funsP at h
    split at h
    · rename_i kn1 st1 hs
      unfold stepP at hs
      split at hs
      · rename_i nm body
        split at hs
        · split at hs
          · rename_i st2 hl
            cases hs
            obtain ⟨z, hz⟩ := look_size hc 61 body _ _ _ _ _ hl (by simp) (by simp)
            obtain ⟨sz', h1, h2⟩ := funs_sizes r (i + 1) _ _ _ _ _ (hc.put nm (.bl true) z) h
            refine ⟨sz', ?_, h2⟩
            unfold sizesP
            simp only [hz, h1]
          · cases hs
        · cases hs
      · cases hs
    · cases h
/-- a program that is none of the faults: what it consists of -/
theorem req_none {v : Va} (h : reqP v = none) : ∃ fs main kn st st' z, v = .tup [.tup fs, main] ∧ fs.length ≤ 20 ∧ funsP 0 [] (0, []) fs = .ok (kn, st) ∧ lookP kn 61 main [.int (-1)] 0 false st = (st', none) ∧ st'.2.length ≤ 40 ∧ unfP 61 fs main = some z ∧ z ≤ 3000 := by
  unfold reqP at h
  split at h
  · rename_i fs main
    split at h
    · cases h
    · rename_i h1
      split at h
      · cases h
      · rename_i kn st h2
        split at h
        · cases h
        · rename_i st' h3
          split at h
          · cases h
          · rename_i h4
            split at h
            · rename_i z h5
              split at h
              · cases h
              · rename_i h6
                exact ⟨fs, main, kn, st, st', z, rfl, by omega, h2, h3, by omega, h5, by omega⟩
            · cases h
  · cases h
theorem unf_some {fs : List Va} {main : Va} {kn : Kn} {st st' : St} (h1 : funsP 0 [] (0, []) fs = .ok (kn, st)) (h2 : lookP kn 61 main [.int (-1)] 0 false st = (st', none)) : ∃ sz z, sizesP 61 [] fs = some sz ∧ sizeP sz 61 main = some z := by
  obtain ⟨sz, a, b⟩ := funs_sizes fs 0 [] [] _ _ _ Covers.nil h1
  obtain ⟨z, hz⟩ := look_size b 61 main _ _ _ _ _ h2 (by simp) (by simp)
  exact ⟨sz, z, a, hz⟩
end Pr
namespace K19
open PySem PySem.Spec L2 PyProof.Rows Dn
def top (i : Nat) : Stmt := PySem.Challenge.pw_shellways_k19_loops_and_calls_case_by_ca.main.body.getD i (.Pass ⟨0, 0, 0, 0⟩)
def g_RESERVED : List (List Nat) := [[100, 101, 102], [99, 97, 108, 108], [115, 116, 97, 116, 117, 115], [103, 105, 118, 101], [122, 101, 114, 111], [107, 101, 101, 112], [112, 117, 116], [111, 112, 116, 105, 111, 110], [116, 114, 97, 112], [111, 110], [111, 102, 102], [105, 102], [116, 104, 101, 110], [101, 108, 115, 101], [119, 104, 105, 108, 101], [117, 110, 116, 105, 108], [116, 105, 109, 101, 115], [100, 111], [101, 110, 100], [98, 114, 101, 97, 107], [110, 101, 120, 116], [114, 101, 116, 117, 114, 110], [101, 120, 105, 116], [102, 97, 105, 108], [112, 105, 112, 101, 115]]
def g_LOOPS : List (List Nat) := [[119, 104, 105, 108, 101], [117, 110, 116, 105, 108], [116, 105, 109, 101, 115]]
def g_LOOP_FRAMES : List (List Nat) := [[99, 111, 110, 100, 105, 116, 105, 111, 110], [98, 111, 100, 121], [116, 105, 109, 101, 115]]
def b1__wall : Ss :=
  (.cons (.pass ⟨3, 8, 3, 12⟩)
  .nil)
def l2__wall : S :=
  .whl (.bl true 0 ⟨2, 10, 2, 14⟩) b1__wall ⟨2, 4, 3, 12⟩
def b__wall : Ss :=
  (.cons l2__wall
  .nil)
def f__wall : Fn := ⟨["k"], ["k"], b__wall⟩
def d__wall : Df := ⟨("_wall", none), "_wall", "_wall", top 0, f__wall⟩
def b_is_integer : Ss :=
  (.cons (.ret (.bop .And (.cons (.isi (.var 0 "value" ⟨28, 22, 28, 27⟩) .int ⟨28, 11, 28, 21⟩ ⟨28, 29, 28, 32⟩ ⟨28, 11, 28, 33⟩) (.cons (.not (.isi (.var 0 "value" ⟨28, 54, 28, 59⟩) .bool ⟨28, 43, 28, 53⟩ ⟨28, 61, 28, 65⟩ ⟨28, 43, 28, 66⟩) ⟨28, 39, 28, 66⟩) .nil)) ⟨28, 11, 28, 67⟩) ⟨28, 4, 28, 67⟩)
  .nil)
def f_is_integer : Fn := ⟨["value"], ["value"], b_is_integer⟩
def d_is_integer : Df := ⟨("is_integer", none), "is_integer", "is_integer", top 17, f_is_integer⟩
def b_is_at_least : Ss :=
  (.cons (.ret (.bop .And (.cons (.call 1 "is_integer" ⟨30, 11, 30, 21⟩ (.cons (.var 0 "value" ⟨30, 22, 30, 27⟩) .nil) ⟨30, 11, 30, 28⟩) (.cons (.cmp .GtE (.var 0 "value" ⟨30, 33, 30, 38⟩) (.var 1 "low" ⟨30, 42, 30, 45⟩) ⟨30, 33, 30, 45⟩) .nil)) ⟨30, 11, 30, 45⟩) ⟨30, 4, 30, 45⟩)
  .nil)
def f_is_at_least : Fn := ⟨["value", "low"], ["value", "low"], b_is_at_least⟩
def d_is_at_least : Df := ⟨("is_at_least", none), "is_at_least", "is_at_least", top 18, f_is_at_least⟩
def b_is_between : Ss :=
  (.cons (.ret (.bop .And (.cons (.call 1 "is_integer" ⟨32, 11, 32, 21⟩ (.cons (.var 0 "value" ⟨32, 22, 32, 27⟩) .nil) ⟨32, 11, 32, 28⟩) (.cons (.chn .LtE .LtE (.var 1 "low" ⟨32, 33, 32, 36⟩) (.var 0 "value" ⟨32, 40, 32, 45⟩) (.var 2 "high" ⟨32, 49, 32, 53⟩) ⟨32, 33, 32, 53⟩) .nil)) ⟨32, 11, 32, 53⟩) ⟨32, 4, 32, 53⟩)
  .nil)
def f_is_between : Fn := ⟨["value", "low", "high"], ["value", "low", "high"], b_is_between⟩
def d_is_between : Df := ⟨("is_between", none), "is_between", "is_between", top 19, f_is_between⟩
def e1_is_name : E :=
  .comp false (.cmp .In (.var 1 "sign" ⟨36, 16, 36, 20⟩) (.glb (.str [97, 98, 99, 100, 101, 102, 103, 104, 105, 106, 107, 108, 109, 110, 111, 112, 113, 114, 115, 116, 117, 118, 119, 120, 121, 122]) "LETTERS" ⟨36, 24, 36, 31⟩) ⟨36, 16, 36, 31⟩) (.nm 1 "sign" ⟨36, 36, 36, 40⟩) (.seq (.var 0 "value" ⟨36, 44, 36, 49⟩)) .nil { kind := PySem.ScopeKind.function, names := [ (PySem.Str.ofString ".0", PySem.NameKind.local), (PySem.Str.ofString "sign", PySem.NameKind.local), (PySem.Str.ofString "LETTERS", PySem.NameKind.globalImplicit)], isGenerator := false, isCoroutine := false, more := [] : PySem.Scope } [("sign", 1)] ⟨36, 15, 36, 50⟩
def b_is_name : Ss :=
  (.cons (.ife (.bop .Or (.cons (.not (.isi (.var 0 "value" ⟨34, 22, 34, 27⟩) .str ⟨34, 11, 34, 21⟩ ⟨34, 29, 34, 32⟩ ⟨34, 11, 34, 33⟩) ⟨34, 7, 34, 33⟩) (.cons (.not (.chn .LtE .LtE (.int 1 0 ⟨34, 41, 34, 42⟩) (.blt .len false ⟨34, 46, 34, 49⟩ (.var 0 "value" ⟨34, 50, 34, 55⟩) ⟨34, 46, 34, 56⟩) (.glb (.int 12) "MAX_LETTERS" ⟨34, 60, 34, 71⟩) ⟨34, 41, 34, 71⟩) ⟨34, 37, 34, 71⟩) (.cons (.inG false (.var 0 "value" ⟨34, 75, 34, 80⟩) g_RESERVED "RESERVED" ⟨34, 84, 34, 92⟩ ⟨34, 75, 34, 92⟩) .nil))) ⟨34, 7, 34, 92⟩) (.cons (.ret (.bl false 0 ⟨35, 15, 35, 20⟩) ⟨35, 8, 35, 20⟩)
  .nil) .nil ⟨34, 4, 35, 20⟩)
  (.cons (.ret (.blt .all false ⟨36, 11, 36, 14⟩ e1_is_name ⟨36, 11, 36, 51⟩) ⟨36, 4, 36, 51⟩)
  .nil))
def f_is_name : Fn := ⟨["value"], ["value", "sign"], b_is_name⟩
def d_is_name : Df := ⟨("is_name", none), "is_name", "is_name", top 20, f_is_name⟩
def b_is_number_or_none : Ss :=
  (.cons (.ret (.bop .Or (.cons (.isN false (.var 0 "value" ⟨38, 11, 38, 16⟩) 0 ⟨38, 20, 38, 24⟩ ⟨38, 11, 38, 24⟩) (.cons (.call 3 "is_between" ⟨38, 28, 38, 38⟩ (.cons (.var 0 "value" ⟨38, 39, 38, 44⟩) (.cons (.int 0 0 ⟨38, 46, 38, 47⟩) (.cons (.glb (.int 255) "MAX_STATUS" ⟨38, 49, 38, 59⟩) .nil))) ⟨38, 28, 38, 60⟩) .nil)) ⟨38, 11, 38, 60⟩) ⟨38, 4, 38, 60⟩)
  .nil)
def f_is_number_or_none : Fn := ⟨["value"], ["value"], b_is_number_or_none⟩
def d_is_number_or_none : Df := ⟨("is_number_or_none", none), "is_number_or_none", "is_number_or_none", top 21, f_is_number_or_none⟩
def e1_kids_of : E :=
  .comp false (.var 2 "part" ⟨46, 37, 46, 41⟩) (.nm 2 "part" ⟨46, 46, 46, 50⟩) (.seq (.sl false (.var 0 "tree" ⟨46, 54, 46, 58⟩) (.cons (.int 3 0 ⟨46, 59, 46, 60⟩) .nil) .nil ⟨46, 59, 46, 61⟩ ⟨46, 54, 46, 62⟩)) (.cons (.isN true (.var 2 "part" ⟨46, 66, 46, 70⟩) 0 ⟨46, 78, 46, 82⟩ ⟨46, 66, 46, 82⟩) .nil) { kind := PySem.ScopeKind.function, names := [(PySem.Str.ofString ".0", PySem.NameKind.local), (PySem.Str.ofString "part", PySem.NameKind.local)], isGenerator := false, isCoroutine := false, more := [] : PySem.Scope } [("part", 2)] ⟨46, 36, 46, 83⟩
def b_kids_of : Ss :=
  (.cons (.set 1 "word" ⟨40, 4, 40, 8⟩ (.ix (.var 0 "tree" ⟨40, 11, 40, 15⟩) (.int 0 0 ⟨40, 16, 40, 17⟩) ⟨40, 11, 40, 18⟩) ⟨40, 4, 40, 18⟩)
  (.cons (.ife (.cmp .In (.var 1 "word" ⟨41, 7, 41, 11⟩) (.tup (.cons (.str [115, 101, 113] 0 ⟨41, 16, 41, 21⟩) (.cons (.str [112, 105, 112, 101] 0 ⟨41, 23, 41, 29⟩) .nil)) 0 ⟨41, 15, 41, 30⟩) ⟨41, 7, 41, 30⟩) (.cons (.ret (.blt .list false ⟨42, 15, 42, 19⟩ (.ix (.var 0 "tree" ⟨42, 20, 42, 24⟩) (.int 1 0 ⟨42, 25, 42, 26⟩) ⟨42, 20, 42, 27⟩) ⟨42, 15, 42, 28⟩) ⟨42, 8, 42, 28⟩)
  .nil) .nil ⟨41, 4, 42, 28⟩)
  (.cons (.ife (.cmp .In (.var 1 "word" ⟨43, 7, 43, 11⟩) (.tup (.cons (.str [97, 110, 100] 0 ⟨43, 16, 43, 21⟩) (.cons (.str [111, 114] 0 ⟨43, 23, 43, 27⟩) (.cons (.str [119, 104, 105, 108, 101] 0 ⟨43, 29, 43, 36⟩) (.cons (.str [117, 110, 116, 105, 108] 0 ⟨43, 38, 43, 45⟩) .nil)))) 0 ⟨43, 15, 43, 46⟩) ⟨43, 7, 43, 46⟩) (.cons (.ret (.lst false (.cons (.ix (.var 0 "tree" ⟨44, 16, 44, 20⟩) (.int 1 0 ⟨44, 21, 44, 22⟩) ⟨44, 16, 44, 23⟩) (.cons (.ix (.var 0 "tree" ⟨44, 25, 44, 29⟩) (.int 2 0 ⟨44, 30, 44, 31⟩) ⟨44, 25, 44, 32⟩) .nil)) ⟨44, 15, 44, 33⟩) ⟨44, 8, 44, 33⟩)
  .nil) .nil ⟨43, 4, 44, 33⟩)
  (.cons (.ife (.cmp .Eq (.var 1 "word" ⟨45, 7, 45, 11⟩) (.str [105, 102] 0 ⟨45, 15, 45, 19⟩) ⟨45, 7, 45, 19⟩) (.cons (.ret (.bin false .Add (.lst false (.cons (.ix (.var 0 "tree" ⟨46, 16, 46, 20⟩) (.int 1 0 ⟨46, 21, 46, 22⟩) ⟨46, 16, 46, 23⟩) (.cons (.ix (.var 0 "tree" ⟨46, 25, 46, 29⟩) (.int 2 0 ⟨46, 30, 46, 31⟩) ⟨46, 25, 46, 32⟩) .nil)) ⟨46, 15, 46, 33⟩) e1_kids_of ⟨46, 15, 46, 83⟩) ⟨46, 8, 46, 83⟩)
  .nil) .nil ⟨45, 4, 46, 83⟩)
  (.cons (.ife (.cmp .In (.var 1 "word" ⟨47, 7, 47, 11⟩) (.tup (.cons (.str [110, 111, 116] 0 ⟨47, 16, 47, 21⟩) (.cons (.str [115, 117, 98] 0 ⟨47, 23, 47, 28⟩) .nil)) 0 ⟨47, 15, 47, 29⟩) ⟨47, 7, 47, 29⟩) (.cons (.ret (.lst false (.cons (.ix (.var 0 "tree" ⟨48, 16, 48, 20⟩) (.int 1 0 ⟨48, 21, 48, 22⟩) ⟨48, 16, 48, 23⟩) .nil) ⟨48, 15, 48, 24⟩) ⟨48, 8, 48, 24⟩)
  .nil) .nil ⟨47, 4, 48, 24⟩)
  (.cons (.ife (.cmp .Eq (.var 1 "word" ⟨49, 7, 49, 11⟩) (.str [116, 105, 109, 101, 115] 0 ⟨49, 15, 49, 22⟩) ⟨49, 7, 49, 22⟩) (.cons (.ret (.lst false (.cons (.ix (.var 0 "tree" ⟨50, 16, 50, 20⟩) (.int 2 0 ⟨50, 21, 50, 22⟩) ⟨50, 16, 50, 23⟩) .nil) ⟨50, 15, 50, 24⟩) ⟨50, 8, 50, 24⟩)
  .nil) .nil ⟨49, 4, 50, 24⟩)
  (.cons (.ret (.ite (.bop .And (.cons (.cmp .Eq (.var 1 "word" ⟨51, 24, 51, 28⟩) (.str [116, 114, 97, 112] 0 ⟨51, 32, 51, 38⟩) ⟨51, 24, 51, 38⟩) (.cons (.isN true (.ix (.var 0 "tree" ⟨51, 43, 51, 47⟩) (.int 2 0 ⟨51, 48, 51, 49⟩) ⟨51, 43, 51, 50⟩) 0 ⟨51, 58, 51, 62⟩ ⟨51, 43, 51, 62⟩) .nil)) ⟨51, 24, 51, 62⟩) (.lst false (.cons (.ix (.var 0 "tree" ⟨51, 12, 51, 16⟩) (.int 2 0 ⟨51, 17, 51, 18⟩) ⟨51, 12, 51, 19⟩) .nil) ⟨51, 11, 51, 20⟩) (.lst false .nil ⟨51, 68, 51, 70⟩) ⟨51, 11, 51, 70⟩) ⟨51, 4, 51, 70⟩)
  .nil)))))))
def f_kids_of : Fn := ⟨["tree"], ["tree", "word", "part"], b_kids_of⟩
def d_kids_of : Df := ⟨("kids_of", none), "kids_of", "kids_of", top 22, f_kids_of⟩
def b_is_leaf : Ss :=
  (.cons (.ife (.cmp .In (.var 1 "word" ⟨53, 7, 53, 11⟩) (.tup (.cons (.str [114, 117, 110] 0 ⟨53, 16, 53, 21⟩) (.cons (.str [103, 105, 118, 101] 0 ⟨53, 23, 53, 29⟩) (.cons (.str [122, 101, 114, 111] 0 ⟨53, 31, 53, 37⟩) (.cons (.str [107, 101, 101, 112] 0 ⟨53, 39, 53, 45⟩) .nil)))) 0 ⟨53, 15, 53, 46⟩) ⟨53, 7, 53, 46⟩) (.cons (.ret (.bop .And (.cons (.cmp .Eq (.var 2 "size" ⟨54, 15, 54, 19⟩) (.int 2 0 ⟨54, 23, 54, 24⟩) ⟨54, 15, 54, 24⟩) (.cons (.call 4 "is_name" ⟨54, 29, 54, 36⟩ (.cons (.ix (.var 0 "tree" ⟨54, 37, 54, 41⟩) (.int 1 0 ⟨54, 42, 54, 43⟩) ⟨54, 37, 54, 44⟩) .nil) ⟨54, 29, 54, 45⟩) .nil)) ⟨54, 15, 54, 45⟩) ⟨54, 8, 54, 45⟩)
  .nil) .nil ⟨53, 4, 54, 45⟩)
  (.cons (.ife (.cmp .Eq (.var 1 "word" ⟨55, 7, 55, 11⟩) (.str [99, 97, 108, 108] 0 ⟨55, 15, 55, 21⟩) ⟨55, 7, 55, 21⟩) (.cons (.ret (.bop .And (.cons (.cmp .Eq (.var 2 "size" ⟨56, 15, 56, 19⟩) (.int 2 0 ⟨56, 23, 56, 24⟩) ⟨56, 15, 56, 24⟩) (.cons (.isi (.ix (.var 0 "tree" ⟨56, 40, 56, 44⟩) (.int 1 0 ⟨56, 45, 56, 46⟩) ⟨56, 40, 56, 47⟩) .str ⟨56, 29, 56, 39⟩ ⟨56, 49, 56, 52⟩ ⟨56, 29, 56, 53⟩) (.cons (.cmp .In (.ix (.var 0 "tree" ⟨56, 59, 56, 63⟩) (.int 1 0 ⟨56, 64, 56, 65⟩) ⟨56, 59, 56, 66⟩) (.var 3 "known" ⟨56, 70, 56, 75⟩) ⟨56, 59, 56, 75⟩) .nil))) ⟨56, 15, 56, 76⟩) ⟨56, 8, 56, 76⟩)
  .nil) .nil ⟨55, 4, 56, 76⟩)
  (.cons (.ife (.cmp .Eq (.var 1 "word" ⟨57, 7, 57, 11⟩) (.str [115, 116, 97, 116, 117, 115] 0 ⟨57, 15, 57, 23⟩) ⟨57, 7, 57, 23⟩) (.cons (.ret (.bop .And (.cons (.cmp .Eq (.var 2 "size" ⟨58, 15, 58, 19⟩) (.int 2 0 ⟨58, 23, 58, 24⟩) ⟨58, 15, 58, 24⟩) (.cons (.call 3 "is_between" ⟨58, 29, 58, 39⟩ (.cons (.ix (.var 0 "tree" ⟨58, 40, 58, 44⟩) (.int 1 0 ⟨58, 45, 58, 46⟩) ⟨58, 40, 58, 47⟩) (.cons (.int 0 0 ⟨58, 49, 58, 50⟩) (.cons (.glb (.int 255) "MAX_STATUS" ⟨58, 52, 58, 62⟩) .nil))) ⟨58, 29, 58, 63⟩) .nil)) ⟨58, 15, 58, 63⟩) ⟨58, 8, 58, 63⟩)
  .nil) .nil ⟨57, 4, 58, 63⟩)
  (.cons (.ife (.cmp .Eq (.var 1 "word" ⟨59, 7, 59, 11⟩) (.str [112, 117, 116] 0 ⟨59, 15, 59, 20⟩) ⟨59, 7, 59, 20⟩) (.cons (.ret (.bop .And (.cons (.cmp .Eq (.var 2 "size" ⟨60, 15, 60, 19⟩) (.int 3 0 ⟨60, 23, 60, 24⟩) ⟨60, 15, 60, 24⟩) (.cons (.call 4 "is_name" ⟨60, 29, 60, 36⟩ (.cons (.ix (.var 0 "tree" ⟨60, 37, 60, 41⟩) (.int 1 0 ⟨60, 42, 60, 43⟩) ⟨60, 37, 60, 44⟩) .nil) ⟨60, 29, 60, 45⟩) (.cons (.call 3 "is_between" ⟨60, 50, 60, 60⟩ (.cons (.ix (.var 0 "tree" ⟨60, 61, 60, 65⟩) (.int 2 0 ⟨60, 66, 60, 67⟩) ⟨60, 61, 60, 68⟩) (.cons (.int 0 0 ⟨60, 70, 60, 71⟩) (.cons (.glb (.int 255) "MAX_STATUS" ⟨60, 73, 60, 83⟩) .nil))) ⟨60, 50, 60, 84⟩) .nil))) ⟨60, 15, 60, 84⟩) ⟨60, 8, 60, 84⟩)
  .nil) .nil ⟨59, 4, 60, 84⟩)
  (.cons (.ret (.bop .And (.cons (.cmp .Eq (.var 1 "word" ⟨61, 11, 61, 15⟩) (.str [111, 112, 116, 105, 111, 110] 0 ⟨61, 19, 61, 27⟩) ⟨61, 11, 61, 27⟩) (.cons (.cmp .Eq (.var 2 "size" ⟨61, 32, 61, 36⟩) (.int 3 0 ⟨61, 40, 61, 41⟩) ⟨61, 32, 61, 41⟩) (.cons (.call 8 "is_word" ⟨61, 46, 61, 53⟩ (.cons (.ix (.var 0 "tree" ⟨61, 54, 61, 58⟩) (.int 1 0 ⟨61, 59, 61, 60⟩) ⟨61, 54, 61, 61⟩) (.cons (.tup (.cons (.str [102, 97, 105, 108] 0 ⟨61, 64, 61, 70⟩) (.cons (.str [112, 105, 112, 101, 115] 0 ⟨61, 72, 61, 79⟩) .nil)) 0 ⟨61, 63, 61, 80⟩) .nil)) ⟨61, 46, 61, 81⟩) (.cons (.isi (.ix (.var 0 "tree" ⟨61, 97, 61, 101⟩) (.int 2 0 ⟨61, 102, 61, 103⟩) ⟨61, 97, 61, 104⟩) .bool ⟨61, 86, 61, 96⟩ ⟨61, 106, 61, 110⟩ ⟨61, 86, 61, 111⟩) .nil)))) ⟨61, 11, 61, 111⟩) ⟨61, 4, 61, 111⟩)
  .nil)))))
def f_is_leaf : Fn := ⟨["tree", "word", "size", "known"], ["tree", "word", "size", "known"], b_is_leaf⟩
def d_is_leaf : Df := ⟨("is_leaf", none), "is_leaf", "is_leaf", top 23, f_is_leaf⟩
def b_is_word : Ss :=
  (.cons (.ret (.bop .And (.cons (.isi (.var 0 "value" ⟨63, 22, 63, 27⟩) .str ⟨63, 11, 63, 21⟩ ⟨63, 29, 63, 32⟩ ⟨63, 11, 63, 33⟩) (.cons (.cmp .In (.var 0 "value" ⟨63, 38, 63, 43⟩) (.var 1 "words" ⟨63, 47, 63, 52⟩) ⟨63, 38, 63, 52⟩) .nil)) ⟨63, 11, 63, 52⟩) ⟨63, 4, 63, 52⟩)
  .nil)
def f_is_word : Fn := ⟨["value", "words"], ["value", "words"], b_is_word⟩
def d_is_word : Df := ⟨("is_word", none), "is_word", "is_word", top 24, f_is_word⟩
def b_is_node : Ss :=
  (.cons (.ife (.cmp .In (.var 1 "word" ⟨65, 7, 65, 11⟩) (.tup (.cons (.str [115, 101, 113] 0 ⟨65, 16, 65, 21⟩) (.cons (.str [112, 105, 112, 101] 0 ⟨65, 23, 65, 29⟩) .nil)) 0 ⟨65, 15, 65, 30⟩) ⟨65, 7, 65, 30⟩) (.cons (.ret (.bop .And (.cons (.cmp .Eq (.var 2 "size" ⟨66, 15, 66, 19⟩) (.int 2 0 ⟨66, 23, 66, 24⟩) ⟨66, 15, 66, 24⟩) (.cons (.isi (.ix (.var 0 "tree" ⟨66, 40, 66, 44⟩) (.int 1 0 ⟨66, 45, 66, 46⟩) ⟨66, 40, 66, 47⟩) .tuple ⟨66, 29, 66, 39⟩ ⟨66, 49, 66, 54⟩ ⟨66, 29, 66, 55⟩) (.cons (.cmp .GtE (.blt .len false ⟨66, 61, 66, 64⟩ (.ix (.var 0 "tree" ⟨66, 65, 66, 69⟩) (.int 1 0 ⟨66, 70, 66, 71⟩) ⟨66, 65, 66, 72⟩) ⟨66, 61, 66, 73⟩) (.int 2 0 ⟨66, 77, 66, 78⟩) ⟨66, 61, 66, 78⟩) .nil))) ⟨66, 15, 66, 79⟩) ⟨66, 8, 66, 79⟩)
  .nil) .nil ⟨65, 4, 66, 79⟩)
  (.cons (.ife (.cmp .In (.var 1 "word" ⟨67, 7, 67, 11⟩) (.tup (.cons (.str [97, 110, 100] 0 ⟨67, 16, 67, 21⟩) (.cons (.str [111, 114] 0 ⟨67, 23, 67, 27⟩) (.cons (.str [119, 104, 105, 108, 101] 0 ⟨67, 29, 67, 36⟩) (.cons (.str [117, 110, 116, 105, 108] 0 ⟨67, 38, 67, 45⟩) .nil)))) 0 ⟨67, 15, 67, 46⟩) ⟨67, 7, 67, 46⟩) (.cons (.ret (.cmp .Eq (.var 2 "size" ⟨68, 15, 68, 19⟩) (.int 3 0 ⟨68, 23, 68, 24⟩) ⟨68, 15, 68, 24⟩) ⟨68, 8, 68, 24⟩)
  .nil) .nil ⟨67, 4, 68, 24⟩)
  (.cons (.ife (.cmp .In (.var 1 "word" ⟨69, 7, 69, 11⟩) (.tup (.cons (.str [110, 111, 116] 0 ⟨69, 16, 69, 21⟩) (.cons (.str [115, 117, 98] 0 ⟨69, 23, 69, 28⟩) .nil)) 0 ⟨69, 15, 69, 29⟩) ⟨69, 7, 69, 29⟩) (.cons (.ret (.cmp .Eq (.var 2 "size" ⟨70, 15, 70, 19⟩) (.int 2 0 ⟨70, 23, 70, 24⟩) ⟨70, 15, 70, 24⟩) ⟨70, 8, 70, 24⟩)
  .nil) .nil ⟨69, 4, 70, 24⟩)
  (.cons (.ife (.cmp .Eq (.var 1 "word" ⟨71, 7, 71, 11⟩) (.str [105, 102] 0 ⟨71, 15, 71, 19⟩) ⟨71, 7, 71, 19⟩) (.cons (.ret (.cmp .Eq (.var 2 "size" ⟨72, 15, 72, 19⟩) (.int 4 0 ⟨72, 23, 72, 24⟩) ⟨72, 15, 72, 24⟩) ⟨72, 8, 72, 24⟩)
  .nil) .nil ⟨71, 4, 72, 24⟩)
  (.cons (.ife (.cmp .Eq (.var 1 "word" ⟨73, 7, 73, 11⟩) (.str [116, 105, 109, 101, 115] 0 ⟨73, 15, 73, 22⟩) ⟨73, 7, 73, 22⟩) (.cons (.ret (.bop .And (.cons (.cmp .Eq (.var 2 "size" ⟨74, 15, 74, 19⟩) (.int 3 0 ⟨74, 23, 74, 24⟩) ⟨74, 15, 74, 24⟩) (.cons (.call 3 "is_between" ⟨74, 29, 74, 39⟩ (.cons (.ix (.var 0 "tree" ⟨74, 40, 74, 44⟩) (.int 1 0 ⟨74, 45, 74, 46⟩) ⟨74, 40, 74, 47⟩) (.cons (.int 0 0 ⟨74, 49, 74, 50⟩) (.cons (.glb (.int 1000) "MAX_TIMES" ⟨74, 52, 74, 61⟩) .nil))) ⟨74, 29, 74, 62⟩) .nil)) ⟨74, 15, 74, 62⟩) ⟨74, 8, 74, 62⟩)
  .nil) .nil ⟨73, 4, 74, 62⟩)
  (.cons (.ret (.bop .And (.cons (.cmp .Eq (.var 1 "word" ⟨75, 11, 75, 15⟩) (.str [116, 114, 97, 112] 0 ⟨75, 19, 75, 25⟩) ⟨75, 11, 75, 25⟩) (.cons (.cmp .Eq (.var 2 "size" ⟨75, 30, 75, 34⟩) (.int 3 0 ⟨75, 38, 75, 39⟩) ⟨75, 30, 75, 39⟩) (.cons (.call 8 "is_word" ⟨75, 44, 75, 51⟩ (.cons (.ix (.var 0 "tree" ⟨75, 52, 75, 56⟩) (.int 1 0 ⟨75, 57, 75, 58⟩) ⟨75, 52, 75, 59⟩) (.cons (.tup (.cons (.str [101, 110, 100] 0 ⟨75, 62, 75, 67⟩) (.cons (.str [102, 97, 105, 108] 0 ⟨75, 69, 75, 75⟩) .nil)) 0 ⟨75, 61, 75, 76⟩) .nil)) ⟨75, 44, 75, 77⟩) .nil))) ⟨75, 11, 75, 77⟩) ⟨75, 4, 75, 77⟩)
  .nil))))))
def f_is_node : Fn := ⟨["tree", "word", "size"], ["tree", "word", "size"], b_is_node⟩
def d_is_node : Df := ⟨("is_node", none), "is_node", "is_node", top 25, f_is_node⟩
def b_is_jump : Ss :=
  (.cons (.ife (.cmp .In (.var 1 "word" ⟨77, 7, 77, 11⟩) (.tup (.cons (.str [98, 114, 101, 97, 107] 0 ⟨77, 16, 77, 23⟩) (.cons (.str [110, 101, 120, 116] 0 ⟨77, 25, 77, 31⟩) .nil)) 0 ⟨77, 15, 77, 32⟩) ⟨77, 7, 77, 32⟩) (.cons (.ret (.bop .And (.cons (.cmp .Eq (.var 2 "size" ⟨78, 15, 78, 19⟩) (.int 2 0 ⟨78, 23, 78, 24⟩) ⟨78, 15, 78, 24⟩) (.cons (.call 3 "is_between" ⟨78, 29, 78, 39⟩ (.cons (.ix (.var 0 "tree" ⟨78, 40, 78, 44⟩) (.int 1 0 ⟨78, 45, 78, 46⟩) ⟨78, 40, 78, 47⟩) (.cons (.int 1 0 ⟨78, 49, 78, 50⟩) (.cons (.var 3 "loops" ⟨78, 52, 78, 57⟩) .nil))) ⟨78, 29, 78, 58⟩) .nil)) ⟨78, 15, 78, 58⟩) ⟨78, 8, 78, 58⟩)
  .nil) .nil ⟨77, 4, 78, 58⟩)
  (.cons (.ife (.cmp .Eq (.var 1 "word" ⟨79, 7, 79, 11⟩) (.str [114, 101, 116, 117, 114, 110] 0 ⟨79, 15, 79, 23⟩) ⟨79, 7, 79, 23⟩) (.cons (.ret (.bop .And (.cons (.cmp .Eq (.var 2 "size" ⟨80, 15, 80, 19⟩) (.int 2 0 ⟨80, 23, 80, 24⟩) ⟨80, 15, 80, 24⟩) (.cons (.var 4 "is_within" ⟨80, 29, 80, 38⟩) (.cons (.call 5 "is_number_or_none" ⟨80, 43, 80, 60⟩ (.cons (.ix (.var 0 "tree" ⟨80, 61, 80, 65⟩) (.int 1 0 ⟨80, 66, 80, 67⟩) ⟨80, 61, 80, 68⟩) .nil) ⟨80, 43, 80, 69⟩) .nil))) ⟨80, 15, 80, 69⟩) ⟨80, 8, 80, 69⟩)
  .nil) .nil ⟨79, 4, 80, 69⟩)
  (.cons (.ret (.bop .And (.cons (.cmp .Eq (.var 1 "word" ⟨81, 11, 81, 15⟩) (.str [101, 120, 105, 116] 0 ⟨81, 19, 81, 25⟩) ⟨81, 11, 81, 25⟩) (.cons (.cmp .Eq (.var 2 "size" ⟨81, 30, 81, 34⟩) (.int 2 0 ⟨81, 38, 81, 39⟩) ⟨81, 30, 81, 39⟩) (.cons (.call 5 "is_number_or_none" ⟨81, 44, 81, 61⟩ (.cons (.ix (.var 0 "tree" ⟨81, 62, 81, 66⟩) (.int 1 0 ⟨81, 67, 81, 68⟩) ⟨81, 62, 81, 69⟩) .nil) ⟨81, 44, 81, 70⟩) .nil))) ⟨81, 11, 81, 70⟩) ⟨81, 4, 81, 70⟩)
  .nil)))
def f_is_jump : Fn := ⟨["tree", "word", "size", "loops", "is_within"], ["tree", "word", "size", "loops", "is_within"], b_is_jump⟩
def d_is_jump : Df := ⟨("is_jump", none), "is_jump", "is_jump", top 26, f_is_jump⟩
def b_Checker___init__ : Ss :=
  (.cons (.sfld (.var 0 "self" ⟨85, 8, 85, 12⟩) 2 "count" ⟨85, 8, 85, 18⟩ (.int 0 0 ⟨85, 21, 85, 22⟩) ⟨85, 8, 85, 22⟩)
  (.cons (.sfld (.var 0 "self" ⟨86, 8, 86, 12⟩) 3 "names" ⟨86, 8, 86, 18⟩ (.dnw false ⟨86, 21, 86, 23⟩) ⟨86, 8, 86, 23⟩)
  .nil))
def f_Checker___init__ : Fn := ⟨["self"], ["self"], b_Checker___init__⟩
def d_Checker___init__ : Df := ⟨("Checker", some ("__init__" : Str)), "__init__", "Checker.__init__", inClass (top 27) 0, f_Checker___init__⟩
def s1_Checker_look : S :=
  .rse 4 0 "InvalidProgram" ⟨91, 18, 91, 32⟩ (.tup .nil 0 ⟨91, 33, 91, 35⟩) ⟨91, 18, 91, 36⟩ ⟨91, 12, 91, 36⟩
def s2_Checker_look : S :=
  .rse 4 0 "InvalidProgram" ⟨93, 18, 93, 32⟩ (.var 2 "path" ⟨93, 33, 93, 37⟩) ⟨93, 18, 93, 38⟩ ⟨93, 12, 93, 38⟩
def s3_Checker_look : S :=
  .ssub (.fld (.var 0 "self" ⟨97, 16, 97, 20⟩) 3 "names" ⟨97, 16, 97, 26⟩) (.ix (.var 1 "tree" ⟨97, 27, 97, 31⟩) (.int 1 0 ⟨97, 32, 97, 33⟩) ⟨97, 27, 97, 34⟩) ⟨97, 16, 97, 35⟩ (.bl true 0 ⟨97, 38, 97, 42⟩) ⟨97, 16, 97, 42⟩
def s4_Checker_look : S :=
  .ife (.cmp .In (.var 6 "word" ⟨96, 15, 96, 19⟩) (.tup (.cons (.str [103, 105, 118, 101] 0 ⟨96, 24, 96, 30⟩) (.cons (.str [122, 101, 114, 111] 0 ⟨96, 32, 96, 38⟩) (.cons (.str [107, 101, 101, 112] 0 ⟨96, 40, 96, 46⟩) (.cons (.str [112, 117, 116] 0 ⟨96, 48, 96, 53⟩) .nil)))) 0 ⟨96, 23, 96, 54⟩) ⟨96, 15, 96, 54⟩) (.cons s3_Checker_look
  .nil) .nil ⟨96, 12, 97, 42⟩
def s5_Checker_look : S :=
  .ret (.non 0 ⟨98, 19, 98, 23⟩) ⟨98, 12, 98, 23⟩
def s6_Checker_look : S :=
  .rse 4 0 "InvalidProgram" ⟨100, 18, 100, 32⟩ (.var 2 "path" ⟨100, 33, 100, 37⟩) ⟨100, 18, 100, 38⟩ ⟨100, 12, 100, 38⟩
def s7_Checker_look : S :=
  .aug 4 "loops" ⟨102, 12, 102, 17⟩ false (.int 1 0 ⟨102, 21, 102, 22⟩) ⟨102, 12, 102, 22⟩
def s8_Checker_look : S :=
  .unp (.cons (.nm 4 "loops" ⟨104, 12, 104, 17⟩) (.cons (.nm 5 "is_within" ⟨104, 19, 104, 28⟩) .nil)) 0 ⟨104, 12, 104, 28⟩ (.tup (.cons (.int 0 0 ⟨104, 32, 104, 33⟩) (.cons (.bl false 0 ⟨104, 35, 104, 40⟩) .nil)) 0 ⟨104, 31, 104, 41⟩) ⟨104, 12, 104, 41⟩
def s9_Checker_look : S :=
  .expr (.meth 0 12 (.var 0 "self" ⟨106, 12, 106, 16⟩) "look" ⟨106, 12, 106, 21⟩ (.cons (.var 9 "kid" ⟨106, 22, 106, 25⟩) (.cons (.bin false .Add (.var 2 "path" ⟨106, 27, 106, 31⟩) (.tup (.cons (.var 8 "place" ⟨106, 35, 106, 40⟩) .nil) 0 ⟨106, 34, 106, 42⟩) ⟨106, 27, 106, 42⟩) (.cons (.var 3 "known" ⟨106, 44, 106, 49⟩) (.cons (.var 4 "loops" ⟨106, 51, 106, 56⟩) (.cons (.var 5 "is_within" ⟨106, 58, 106, 67⟩) .nil))))) ⟨106, 12, 106, 68⟩) ⟨106, 12, 106, 68⟩
def b10_Checker_look : Ss :=
  (.cons s9_Checker_look
  .nil)
def l11_Checker_look : S :=
  .for_ (.tp (.cons (.nm 8 "place" ⟨105, 12, 105, 17⟩) (.cons (.nm 9 "kid" ⟨105, 19, 105, 22⟩) .nil)) 0 ⟨105, 12, 105, 22⟩) (.enu (.call 6 "kids_of" ⟨105, 36, 105, 43⟩ (.cons (.var 1 "tree" ⟨105, 44, 105, 48⟩) .nil) ⟨105, 36, 105, 49⟩) ⟨105, 26, 105, 35⟩ ⟨105, 26, 105, 50⟩) b10_Checker_look ⟨105, 8, 106, 68⟩
def s12_Checker_look : S :=
  .afld (.var 0 "self" ⟨89, 8, 89, 12⟩) 2 "count" ⟨89, 8, 89, 18⟩ false (.int 1 0 ⟨89, 22, 89, 23⟩) ⟨89, 8, 89, 23⟩
def s13_Checker_look : S :=
  .ife (.cmp .Gt (.fld (.var 0 "self" ⟨90, 11, 90, 15⟩) 2 "count" ⟨90, 11, 90, 21⟩) (.glb (.int 3000) "MAX_TREES" ⟨90, 24, 90, 33⟩) ⟨90, 11, 90, 33⟩) (.cons s1_Checker_look
  .nil) .nil ⟨90, 8, 91, 36⟩
def s14_Checker_look : S :=
  .ife (.bop .Or (.cons (.cmp .Gt (.blt .len false ⟨92, 11, 92, 14⟩ (.var 2 "path" ⟨92, 15, 92, 19⟩) ⟨92, 11, 92, 20⟩) (.glb (.int 60) "MAX_DEPTH" ⟨92, 23, 92, 32⟩) ⟨92, 11, 92, 32⟩) (.cons (.not (.isi (.var 1 "tree" ⟨92, 51, 92, 55⟩) .tuple ⟨92, 40, 92, 50⟩ ⟨92, 57, 92, 62⟩ ⟨92, 40, 92, 63⟩) ⟨92, 36, 92, 63⟩) (.cons (.cmp .Eq (.blt .len false ⟨92, 67, 92, 70⟩ (.var 1 "tree" ⟨92, 71, 92, 75⟩) ⟨92, 67, 92, 76⟩) (.int 0 0 ⟨92, 80, 92, 81⟩) ⟨92, 67, 92, 81⟩) (.cons (.not (.isi (.ix (.var 1 "tree" ⟨92, 101, 92, 105⟩) (.int 0 0 ⟨92, 106, 92, 107⟩) ⟨92, 101, 92, 108⟩) .str ⟨92, 90, 92, 100⟩ ⟨92, 110, 92, 113⟩ ⟨92, 90, 92, 114⟩) ⟨92, 86, 92, 114⟩) .nil)))) ⟨92, 11, 92, 115⟩) (.cons s2_Checker_look
  .nil) .nil ⟨92, 8, 93, 38⟩
def s15_Checker_look : S :=
  .par 6 7 "word" "size" ⟨94, 8, 94, 12⟩ ⟨94, 14, 94, 18⟩ ⟨94, 8, 94, 18⟩ 0 (.ix (.var 1 "tree" ⟨94, 22, 94, 26⟩) (.int 0 0 ⟨94, 27, 94, 28⟩) ⟨94, 22, 94, 29⟩) (.blt .len false ⟨94, 31, 94, 34⟩ (.var 1 "tree" ⟨94, 35, 94, 39⟩) ⟨94, 31, 94, 40⟩) 0 ⟨94, 21, 94, 41⟩ ⟨94, 8, 94, 41⟩
def s16_Checker_look : S :=
  .ife (.bop .Or (.cons (.call 7 "is_leaf" ⟨95, 11, 95, 18⟩ (.cons (.var 1 "tree" ⟨95, 19, 95, 23⟩) (.cons (.var 6 "word" ⟨95, 25, 95, 29⟩) (.cons (.var 7 "size" ⟨95, 31, 95, 35⟩) (.cons (.var 3 "known" ⟨95, 37, 95, 42⟩) .nil)))) ⟨95, 11, 95, 43⟩) (.cons (.call 10 "is_jump" ⟨95, 47, 95, 54⟩ (.cons (.var 1 "tree" ⟨95, 55, 95, 59⟩) (.cons (.var 6 "word" ⟨95, 61, 95, 65⟩) (.cons (.var 7 "size" ⟨95, 67, 95, 71⟩) (.cons (.var 4 "loops" ⟨95, 73, 95, 78⟩) (.cons (.var 5 "is_within" ⟨95, 80, 95, 89⟩) .nil))))) ⟨95, 47, 95, 90⟩) .nil)) ⟨95, 11, 95, 90⟩) (.cons s4_Checker_look
  (.cons s5_Checker_look
  .nil)) .nil ⟨95, 8, 98, 23⟩
def s17_Checker_look : S :=
  .ife (.not (.call 9 "is_node" ⟨99, 15, 99, 22⟩ (.cons (.var 1 "tree" ⟨99, 23, 99, 27⟩) (.cons (.var 6 "word" ⟨99, 29, 99, 33⟩) (.cons (.var 7 "size" ⟨99, 35, 99, 39⟩) .nil))) ⟨99, 15, 99, 40⟩) ⟨99, 11, 99, 40⟩) (.cons s6_Checker_look
  .nil) .nil ⟨99, 8, 100, 38⟩
def s18_Checker_look : S :=
  .ife (.inG false (.var 6 "word" ⟨101, 11, 101, 15⟩) g_LOOPS "LOOPS" ⟨101, 19, 101, 24⟩ ⟨101, 11, 101, 24⟩) (.cons s7_Checker_look
  .nil) .nil ⟨101, 8, 102, 22⟩
def s19_Checker_look : S :=
  .ife (.cmp .In (.var 6 "word" ⟨103, 11, 103, 15⟩) (.tup (.cons (.str [115, 117, 98] 0 ⟨103, 20, 103, 25⟩) (.cons (.str [112, 105, 112, 101] 0 ⟨103, 27, 103, 33⟩) (.cons (.str [116, 114, 97, 112] 0 ⟨103, 35, 103, 41⟩) .nil))) 0 ⟨103, 19, 103, 42⟩) ⟨103, 11, 103, 42⟩) (.cons s8_Checker_look
  .nil) .nil ⟨103, 8, 104, 41⟩
def s20_Checker_look : S :=
  .ret (.non 0 ⟨107, 15, 107, 19⟩) ⟨107, 8, 107, 19⟩
def b_Checker_look : Ss :=
  (.cons s12_Checker_look
  (.cons s13_Checker_look
  (.cons s14_Checker_look
  (.cons s15_Checker_look
  (.cons s16_Checker_look
  (.cons s17_Checker_look
  (.cons s18_Checker_look
  (.cons s19_Checker_look
  (.cons l11_Checker_look
  (.cons s20_Checker_look
  .nil))))))))))
def f_Checker_look : Fn := ⟨["self", "tree", "path", "known", "loops", "is_within"], ["self", "tree", "path", "known", "loops", "is_within", "word", "size", "place", "kid"], b_Checker_look⟩
def d_Checker_look : Df := ⟨("Checker", some ("look" : Str)), "look", "Checker.look", inClass (top 27) 1, f_Checker_look⟩
def s1_require_program : S :=
  .rse 4 0 "InvalidProgram" ⟨110, 14, 110, 28⟩ (.tup .nil 0 ⟨110, 29, 110, 31⟩) ⟨110, 14, 110, 32⟩ ⟨110, 8, 110, 32⟩
def s2_require_program : S :=
  .rse 4 0 "InvalidProgram" ⟨112, 14, 112, 28⟩ (.tup .nil 0 ⟨112, 29, 112, 31⟩) ⟨112, 14, 112, 32⟩ ⟨112, 8, 112, 32⟩
def s3_require_program : S :=
  .rse 4 0 "InvalidProgram" ⟨116, 18, 116, 32⟩ (.tup (.cons (.var 3 "number" ⟨116, 34, 116, 40⟩) .nil) 0 ⟨116, 33, 116, 42⟩) ⟨116, 18, 116, 43⟩ ⟨116, 12, 116, 43⟩
def s4_require_program : S :=
  .ife (.bop .Or (.cons (.not (.isi (.var 4 "function" ⟨115, 26, 115, 34⟩) .tuple ⟨115, 15, 115, 25⟩ ⟨115, 36, 115, 41⟩ ⟨115, 15, 115, 42⟩) ⟨115, 11, 115, 42⟩) (.cons (.cmp .NotEq (.blt .len false ⟨115, 46, 115, 49⟩ (.var 4 "function" ⟨115, 50, 115, 58⟩) ⟨115, 46, 115, 59⟩) (.int 2 0 ⟨115, 63, 115, 64⟩) ⟨115, 46, 115, 64⟩) (.cons (.not (.call 4 "is_name" ⟨115, 73, 115, 80⟩ (.cons (.ix (.var 4 "function" ⟨115, 81, 115, 89⟩) (.int 0 0 ⟨115, 90, 115, 91⟩) ⟨115, 81, 115, 92⟩) .nil) ⟨115, 73, 115, 93⟩) ⟨115, 69, 115, 93⟩) (.cons (.cmp .In (.ix (.var 4 "function" ⟨115, 99, 115, 107⟩) (.int 0 0 ⟨115, 108, 115, 109⟩) ⟨115, 99, 115, 110⟩) (.var 2 "known" ⟨115, 114, 115, 119⟩) ⟨115, 99, 115, 119⟩) .nil)))) ⟨115, 11, 115, 120⟩) (.cons s3_require_program
  .nil) .nil ⟨115, 8, 116, 43⟩
def s5_require_program : S :=
  .expr (.meth 0 12 (.var 1 "checker" ⟨117, 8, 117, 15⟩) "look" ⟨117, 8, 117, 20⟩ (.cons (.ix (.var 4 "function" ⟨117, 21, 117, 29⟩) (.int 1 0 ⟨117, 30, 117, 31⟩) ⟨117, 21, 117, 32⟩) (.cons (.tup (.cons (.var 3 "number" ⟨117, 35, 117, 41⟩) .nil) 0 ⟨117, 34, 117, 43⟩) (.cons (.var 2 "known" ⟨117, 45, 117, 50⟩) (.cons (.int 0 0 ⟨117, 52, 117, 53⟩) (.cons (.bl true 0 ⟨117, 55, 117, 59⟩) .nil))))) ⟨117, 8, 117, 60⟩) ⟨117, 8, 117, 60⟩
def s6_require_program : S :=
  .ssub (.var 2 "known" ⟨118, 8, 118, 13⟩) (.ix (.var 4 "function" ⟨118, 14, 118, 22⟩) (.int 0 0 ⟨118, 23, 118, 24⟩) ⟨118, 14, 118, 25⟩) ⟨118, 8, 118, 26⟩ (.bl true 0 ⟨118, 29, 118, 33⟩) ⟨118, 8, 118, 33⟩
def b7_require_program : Ss :=
  (.cons s4_require_program
  (.cons s5_require_program
  (.cons s6_require_program
  .nil)))
def l8_require_program : S :=
  .for_ (.tp (.cons (.nm 3 "number" ⟨114, 8, 114, 14⟩) (.cons (.nm 4 "function" ⟨114, 16, 114, 24⟩) .nil)) 0 ⟨114, 8, 114, 24⟩) (.enu (.ix (.var 0 "program" ⟨114, 38, 114, 45⟩) (.int 0 0 ⟨114, 46, 114, 47⟩) ⟨114, 38, 114, 48⟩) ⟨114, 28, 114, 37⟩ ⟨114, 28, 114, 49⟩) b7_require_program ⟨114, 4, 118, 33⟩
def s9_require_program : S :=
  .rse 4 0 "InvalidProgram" ⟨121, 14, 121, 28⟩ (.tup .nil 0 ⟨121, 29, 121, 31⟩) ⟨121, 14, 121, 32⟩ ⟨121, 8, 121, 32⟩
def s10_require_program : S :=
  .ife (.bop .Or (.cons (.not (.isi (.var 0 "program" ⟨109, 22, 109, 29⟩) .tuple ⟨109, 11, 109, 21⟩ ⟨109, 31, 109, 36⟩ ⟨109, 11, 109, 37⟩) ⟨109, 7, 109, 37⟩) (.cons (.cmp .NotEq (.blt .len false ⟨109, 41, 109, 44⟩ (.var 0 "program" ⟨109, 45, 109, 52⟩) ⟨109, 41, 109, 53⟩) (.int 2 0 ⟨109, 57, 109, 58⟩) ⟨109, 41, 109, 58⟩) (.cons (.not (.isi (.ix (.var 0 "program" ⟨109, 78, 109, 85⟩) (.int 0 0 ⟨109, 86, 109, 87⟩) ⟨109, 78, 109, 88⟩) .tuple ⟨109, 67, 109, 77⟩ ⟨109, 90, 109, 95⟩ ⟨109, 67, 109, 96⟩) ⟨109, 63, 109, 96⟩) .nil))) ⟨109, 7, 109, 97⟩) (.cons s1_require_program
  .nil) .nil ⟨109, 4, 110, 32⟩
def s11_require_program : S :=
  .ife (.cmp .Gt (.blt .len false ⟨111, 7, 111, 10⟩ (.ix (.var 0 "program" ⟨111, 11, 111, 18⟩) (.int 0 0 ⟨111, 19, 111, 20⟩) ⟨111, 11, 111, 21⟩) ⟨111, 7, 111, 22⟩) (.glb (.int 20) "MAX_FUNCTIONS" ⟨111, 25, 111, 38⟩) ⟨111, 7, 111, 38⟩) (.cons s2_require_program
  .nil) .nil ⟨111, 4, 112, 32⟩
def s12_require_program : S :=
  .par 1 2 "checker" "known" ⟨113, 4, 113, 11⟩ ⟨113, 13, 113, 18⟩ ⟨113, 4, 113, 18⟩ 0 (.make 0 11 "Checker" ⟨113, 22, 113, 29⟩ .nil ⟨113, 22, 113, 31⟩) (.dnw false ⟨113, 33, 113, 35⟩) 0 ⟨113, 21, 113, 36⟩ ⟨113, 4, 113, 36⟩
def s13_require_program : S :=
  .expr (.meth 0 12 (.var 1 "checker" ⟨119, 4, 119, 11⟩) "look" ⟨119, 4, 119, 16⟩ (.cons (.ix (.var 0 "program" ⟨119, 17, 119, 24⟩) (.int 1 0 ⟨119, 25, 119, 26⟩) ⟨119, 17, 119, 27⟩) (.cons (.tup (.cons (.neg (.int 1 0 ⟨119, 31, 119, 32⟩) ⟨119, 30, 119, 32⟩) .nil) 0 ⟨119, 29, 119, 34⟩) (.cons (.var 2 "known" ⟨119, 36, 119, 41⟩) (.cons (.int 0 0 ⟨119, 43, 119, 44⟩) (.cons (.bl false 0 ⟨119, 46, 119, 51⟩) .nil))))) ⟨119, 4, 119, 52⟩) ⟨119, 4, 119, 52⟩
def s14_require_program : S :=
  .ife (.bop .Or (.cons (.cmp .Gt (.blt .len false ⟨120, 7, 120, 10⟩ (.fld (.var 1 "checker" ⟨120, 11, 120, 18⟩) 3 "names" ⟨120, 11, 120, 24⟩) ⟨120, 7, 120, 25⟩) (.glb (.int 40) "MAX_VARIABLES" ⟨120, 28, 120, 41⟩) ⟨120, 7, 120, 41⟩) (.cons (.cmp .Gt (.call 15 "unfolded_size" ⟨120, 45, 120, 58⟩ (.cons (.var 0 "program" ⟨120, 59, 120, 66⟩) .nil) ⟨120, 45, 120, 67⟩) (.glb (.int 3000) "MAX_UNFOLDED" ⟨120, 70, 120, 82⟩) ⟨120, 45, 120, 82⟩) .nil)) ⟨120, 7, 120, 82⟩) (.cons s9_require_program
  .nil) .nil ⟨120, 4, 121, 32⟩
def b_require_program : Ss :=
  (.cons s10_require_program
  (.cons s11_require_program
  (.cons s12_require_program
  (.cons l8_require_program
  (.cons s13_require_program
  (.cons s14_require_program
  .nil))))))
def f_require_program : Fn := ⟨["program"], ["program", "checker", "known", "number", "function"], b_require_program⟩
def d_require_program : Df := ⟨("require_program", none), "require_program", "require_program", top 28, f_require_program⟩
def e1_size_of : E :=
  .comp false (.call 14 "size_of" ⟨123, 21, 123, 28⟩ (.cons (.var 3 "kid" ⟨123, 29, 123, 32⟩) (.cons (.var 1 "sizes" ⟨123, 34, 123, 39⟩) .nil)) ⟨123, 21, 123, 40⟩) (.nm 3 "kid" ⟨123, 45, 123, 48⟩) (.seq (.call 6 "kids_of" ⟨123, 52, 123, 59⟩ (.cons (.var 0 "tree" ⟨123, 60, 123, 64⟩) .nil) ⟨123, 52, 123, 65⟩)) .nil { kind := PySem.ScopeKind.function, names := [ (PySem.Str.ofString ".0", PySem.NameKind.local), (PySem.Str.ofString "kid", PySem.NameKind.local), (PySem.Str.ofString "size_of", PySem.NameKind.globalImplicit), (PySem.Str.ofString "sizes", PySem.NameKind.free)], isGenerator := false, isCoroutine := false, more := [] : PySem.Scope } [("kid", 3)] ⟨123, 20, 123, 66⟩
def b_size_of : Ss :=
  (.cons (.set 2 "total" ⟨123, 4, 123, 9⟩ (.bin false .Add (.int 1 0 ⟨123, 12, 123, 13⟩) (.blt .sum false ⟨123, 16, 123, 19⟩ e1_size_of ⟨123, 16, 123, 67⟩) ⟨123, 12, 123, 67⟩) ⟨123, 4, 123, 67⟩)
  (.cons (.ife (.cmp .Eq (.ix (.var 0 "tree" ⟨124, 7, 124, 11⟩) (.int 0 0 ⟨124, 12, 124, 13⟩) ⟨124, 7, 124, 14⟩) (.str [99, 97, 108, 108] 0 ⟨124, 18, 124, 24⟩) ⟨124, 7, 124, 24⟩) (.cons (.ret (.bin false .Add (.int 1 0 ⟨125, 15, 125, 16⟩) (.ix (.var 1 "sizes" ⟨125, 19, 125, 24⟩) (.ix (.var 0 "tree" ⟨125, 25, 125, 29⟩) (.int 1 0 ⟨125, 30, 125, 31⟩) ⟨125, 25, 125, 32⟩) ⟨125, 19, 125, 33⟩) ⟨125, 15, 125, 33⟩) ⟨125, 8, 125, 33⟩)
  .nil) .nil ⟨124, 4, 125, 33⟩)
  (.cons (.ret (.ite (.cmp .Eq (.ix (.var 0 "tree" ⟨126, 40, 126, 44⟩) (.int 0 0 ⟨126, 45, 126, 46⟩) ⟨126, 40, 126, 47⟩) (.str [116, 105, 109, 101, 115] 0 ⟨126, 51, 126, 58⟩) ⟨126, 40, 126, 58⟩) (.bin false .Add (.int 1 0 ⟨126, 11, 126, 12⟩) (.bin false .Mult (.ix (.var 0 "tree" ⟨126, 15, 126, 19⟩) (.int 1 0 ⟨126, 20, 126, 21⟩) ⟨126, 15, 126, 22⟩) (.bin false .Sub (.var 2 "total" ⟨126, 26, 126, 31⟩) (.int 1 0 ⟨126, 34, 126, 35⟩) ⟨126, 26, 126, 35⟩) ⟨126, 15, 126, 36⟩) ⟨126, 11, 126, 36⟩) (.var 2 "total" ⟨126, 64, 126, 69⟩) ⟨126, 11, 126, 69⟩) ⟨126, 4, 126, 69⟩)
  .nil)))
def f_size_of : Fn := ⟨["tree", "sizes"], ["tree", "sizes", "total", "kid"], b_size_of⟩
def d_size_of : Df := ⟨("size_of", none), "size_of", "size_of", top 29, f_size_of⟩
def s1_unfolded_size : S :=
  .ssub (.var 1 "sizes" ⟨130, 8, 130, 13⟩) (.var 2 "name" ⟨130, 14, 130, 18⟩) ⟨130, 8, 130, 19⟩ (.call 14 "size_of" ⟨130, 22, 130, 29⟩ (.cons (.var 3 "body" ⟨130, 30, 130, 34⟩) (.cons (.var 1 "sizes" ⟨130, 36, 130, 41⟩) .nil)) ⟨130, 22, 130, 42⟩) ⟨130, 8, 130, 42⟩
def b2_unfolded_size : Ss :=
  (.cons s1_unfolded_size
  .nil)
def l3_unfolded_size : S :=
  .for_ (.tp (.cons (.nm 2 "name" ⟨129, 8, 129, 12⟩) (.cons (.nm 3 "body" ⟨129, 14, 129, 18⟩) .nil)) 0 ⟨129, 8, 129, 18⟩) (.seq (.ix (.var 0 "program" ⟨129, 22, 129, 29⟩) (.int 0 0 ⟨129, 30, 129, 31⟩) ⟨129, 22, 129, 32⟩)) b2_unfolded_size ⟨129, 4, 130, 42⟩
def s4_unfolded_size : S :=
  .set 1 "sizes" ⟨128, 4, 128, 9⟩ (.dnw false ⟨128, 12, 128, 14⟩) ⟨128, 4, 128, 14⟩
def s5_unfolded_size : S :=
  .ret (.call 14 "size_of" ⟨131, 11, 131, 18⟩ (.cons (.ix (.var 0 "program" ⟨131, 19, 131, 26⟩) (.int 1 0 ⟨131, 27, 131, 28⟩) ⟨131, 19, 131, 29⟩) (.cons (.var 1 "sizes" ⟨131, 31, 131, 36⟩) .nil)) ⟨131, 11, 131, 37⟩) ⟨131, 4, 131, 37⟩
def b_unfolded_size : Ss :=
  (.cons s4_unfolded_size
  (.cons l3_unfolded_size
  (.cons s5_unfolded_size
  .nil)))
def f_unfolded_size : Fn := ⟨["program"], ["program", "sizes", "name", "body"], b_unfolded_size⟩
def d_unfolded_size : Df := ⟨("unfolded_size", none), "unfolded_size", "unfolded_size", top 30, f_unfolded_size⟩
def e1_trees_of : E :=
  .comp false (.tup (.cons (.var 2 "number" ⟨134, 26, 134, 32⟩) (.cons (.ix (.var 8 "function" ⟨134, 34, 134, 42⟩) (.int 1 0 ⟨134, 43, 134, 44⟩) ⟨134, 34, 134, 45⟩) .nil)) 0 ⟨134, 25, 134, 46⟩) (.tp (.cons (.nm 2 "number" ⟨134, 51, 134, 57⟩) (.cons (.nm 8 "function" ⟨134, 59, 134, 67⟩) .nil)) 0 ⟨134, 51, 134, 67⟩) (.enu (.ix (.var 0 "program" ⟨134, 81, 134, 88⟩) (.int 0 0 ⟨134, 89, 134, 90⟩) ⟨134, 81, 134, 91⟩) ⟨134, 71, 134, 80⟩ ⟨134, 71, 134, 92⟩) .nil { kind := PySem.ScopeKind.function, names := [ (PySem.Str.ofString ".0", PySem.NameKind.local), (PySem.Str.ofString "number", PySem.NameKind.local), (PySem.Str.ofString "function", PySem.NameKind.local)], isGenerator := false, isCoroutine := false, more := [] : PySem.Scope } [("number", 2), ("function", 8)] ⟨134, 24, 134, 93⟩
def e2_trees_of : E :=
  .comp false (.tup (.cons (.bin false .Add (.var 5 "path" ⟨140, 29, 140, 33⟩) (.tup (.cons (.var 9 "place" ⟨140, 37, 140, 42⟩) .nil) 0 ⟨140, 36, 140, 44⟩) ⟨140, 29, 140, 44⟩) (.cons (.ix (.var 7 "kids" ⟨140, 46, 140, 50⟩) (.var 9 "place" ⟨140, 51, 140, 56⟩) ⟨140, 46, 140, 57⟩) .nil)) 0 ⟨140, 28, 140, 58⟩) (.nm 9 "place" ⟨140, 63, 140, 68⟩) (.rng (.cons (.bin false .Sub (.blt .len false ⟨140, 78, 140, 81⟩ (.var 7 "kids" ⟨140, 82, 140, 86⟩) ⟨140, 78, 140, 87⟩) (.int 1 0 ⟨140, 90, 140, 91⟩) ⟨140, 78, 140, 91⟩) (.cons (.neg (.int 1 0 ⟨140, 94, 140, 95⟩) ⟨140, 93, 140, 95⟩) (.cons (.neg (.int 1 0 ⟨140, 98, 140, 99⟩) ⟨140, 97, 140, 99⟩) .nil))) ⟨140, 72, 140, 77⟩ ⟨140, 72, 140, 100⟩) .nil { kind := PySem.ScopeKind.function, names := [ (PySem.Str.ofString ".0", PySem.NameKind.local), (PySem.Str.ofString "place", PySem.NameKind.local), (PySem.Str.ofString "kids", PySem.NameKind.free), (PySem.Str.ofString "path", PySem.NameKind.free)], isGenerator := false, isCoroutine := false, more := [] : PySem.Scope } [("place", 9)] ⟨140, 27, 140, 101⟩
def s3_trees_of : S :=
  .unp (.cons (.nm 5 "path" ⟨137, 12, 137, 16⟩) (.cons (.nm 6 "tree" ⟨137, 18, 137, 22⟩) .nil)) 0 ⟨137, 12, 137, 22⟩ (.pop (.var 4 "waiting" ⟨137, 25, 137, 32⟩) ⟨137, 25, 137, 36⟩ ⟨137, 25, 137, 38⟩) ⟨137, 12, 137, 38⟩
def s4_trees_of : S :=
  .expr (.app (.var 1 "found" ⟨138, 12, 138, 17⟩) (.tup (.cons (.var 5 "path" ⟨138, 26, 138, 30⟩) (.cons (.var 6 "tree" ⟨138, 32, 138, 36⟩) .nil)) 0 ⟨138, 25, 138, 37⟩) ⟨138, 12, 138, 24⟩ ⟨138, 12, 138, 38⟩) ⟨138, 12, 138, 38⟩
def s5_trees_of : S :=
  .set 7 "kids" ⟨139, 12, 139, 16⟩ (.call 6 "kids_of" ⟨139, 19, 139, 26⟩ (.cons (.var 6 "tree" ⟨139, 27, 139, 31⟩) .nil) ⟨139, 19, 139, 32⟩) ⟨139, 12, 139, 32⟩
def s6_trees_of : S :=
  .expr (.ext (.var 4 "waiting" ⟨140, 12, 140, 19⟩) e2_trees_of ⟨140, 12, 140, 26⟩ ⟨140, 12, 140, 102⟩) ⟨140, 12, 140, 102⟩
def b7_trees_of : Ss :=
  (.cons s3_trees_of
  (.cons s4_trees_of
  (.cons s5_trees_of
  (.cons s6_trees_of
  .nil))))
def l8_trees_of : S :=
  .whl (.cmp .NotEq (.var 4 "waiting" ⟨136, 14, 136, 21⟩) (.lst false .nil ⟨136, 25, 136, 27⟩) ⟨136, 14, 136, 27⟩) b7_trees_of ⟨136, 8, 140, 102⟩
def s9_trees_of : S :=
  .set 4 "waiting" ⟨135, 8, 135, 15⟩ (.lst true (.cons (.tup (.cons (.tup (.cons (.var 2 "number" ⟨135, 21, 135, 27⟩) .nil) 0 ⟨135, 20, 135, 29⟩) (.cons (.var 3 "body" ⟨135, 31, 135, 35⟩) .nil)) 0 ⟨135, 19, 135, 36⟩) .nil) ⟨135, 18, 135, 37⟩) ⟨135, 8, 135, 37⟩
def b10_trees_of : Ss :=
  (.cons s9_trees_of
  (.cons l8_trees_of
  .nil))
def l11_trees_of : S :=
  .for_ (.tp (.cons (.nm 2 "number" ⟨134, 8, 134, 14⟩) (.cons (.nm 3 "body" ⟨134, 16, 134, 20⟩) .nil)) 0 ⟨134, 8, 134, 20⟩) (.seq (.bin false .Add e1_trees_of (.lst false (.cons (.tup (.cons (.neg (.int 1 0 ⟨134, 99, 134, 100⟩) ⟨134, 98, 134, 100⟩) (.cons (.ix (.var 0 "program" ⟨134, 102, 134, 109⟩) (.int 1 0 ⟨134, 110, 134, 111⟩) ⟨134, 102, 134, 112⟩) .nil)) 0 ⟨134, 97, 134, 113⟩) .nil) ⟨134, 96, 134, 114⟩) ⟨134, 24, 134, 114⟩)) b10_trees_of ⟨134, 4, 140, 102⟩
def s12_trees_of : S :=
  .set 1 "found" ⟨133, 4, 133, 9⟩ (.lst true .nil ⟨133, 12, 133, 14⟩) ⟨133, 4, 133, 14⟩
def s13_trees_of : S :=
  .ret (.var 1 "found" ⟨141, 11, 141, 16⟩) ⟨141, 4, 141, 16⟩
def b_trees_of : Ss :=
  (.cons s12_trees_of
  (.cons l11_trees_of
  (.cons s13_trees_of
  .nil)))
def f_trees_of : Fn := ⟨["program"], ["program", "found", "number", "body", "waiting", "path", "tree", "kids", "function", "place"], b_trees_of⟩
def d_trees_of : Df := ⟨("trees_of", none), "trees_of", "trees_of", top 31, f_trees_of⟩
def e1_variables_of : E :=
  .dcm false (.ix (.var 3 "tree" ⟨144, 19, 144, 23⟩) (.int 1 0 ⟨144, 24, 144, 25⟩) ⟨144, 19, 144, 26⟩) (.bl true 0 ⟨144, 28, 144, 32⟩) (.tp (.cons (.nm 2 "path" ⟨144, 37, 144, 41⟩) (.cons (.nm 3 "tree" ⟨144, 43, 144, 47⟩) .nil)) 0 ⟨144, 37, 144, 47⟩) (.seq (.call 16 "trees_of" ⟨144, 51, 144, 59⟩ (.cons (.var 0 "program" ⟨144, 60, 144, 67⟩) .nil) ⟨144, 51, 144, 68⟩)) (.cons (.cmp .In (.ix (.var 3 "tree" ⟨144, 72, 144, 76⟩) (.int 0 0 ⟨144, 77, 144, 78⟩) ⟨144, 72, 144, 79⟩) (.var 1 "words" ⟨144, 83, 144, 88⟩) ⟨144, 72, 144, 88⟩) .nil) { kind := PySem.ScopeKind.function, names := [ (PySem.Str.ofString ".0", PySem.NameKind.local), (PySem.Str.ofString "path", PySem.NameKind.local), (PySem.Str.ofString "tree", PySem.NameKind.local), (PySem.Str.ofString "words", PySem.NameKind.free)], isGenerator := false, isCoroutine := false, more := [] : PySem.Scope } [("path", 2), ("tree", 3)] ⟨144, 18, 144, 89⟩
def b_variables_of : Ss :=
  (.cons (.set 1 "words" ⟨143, 4, 143, 9⟩ (.tup (.cons (.str [103, 105, 118, 101] 0 ⟨143, 13, 143, 19⟩) (.cons (.str [122, 101, 114, 111] 0 ⟨143, 21, 143, 27⟩) (.cons (.str [107, 101, 101, 112] 0 ⟨143, 29, 143, 35⟩) (.cons (.str [112, 117, 116] 0 ⟨143, 37, 143, 42⟩) .nil)))) 0 ⟨143, 12, 143, 43⟩) ⟨143, 4, 143, 43⟩)
  (.cons (.ret (.blt .sorted false ⟨144, 11, 144, 17⟩ e1_variables_of ⟨144, 11, 144, 90⟩) ⟨144, 4, 144, 90⟩)
  .nil))
def f_variables_of : Fn := ⟨["program"], ["program", "words", "path", "tree"], b_variables_of⟩
def d_variables_of : Df := ⟨("variables_of", none), "variables_of", "variables_of", top 32, f_variables_of⟩
def e1_Code___init__ : E :=
  .dcm true (.var 3 "path" ⟨153, 18, 153, 22⟩) (.var 6 "number" ⟨153, 24, 153, 30⟩) (.tp (.cons (.nm 6 "number" ⟨153, 35, 153, 41⟩) (.cons (.tp (.cons (.nm 3 "path" ⟨153, 44, 153, 48⟩) (.cons (.nm 4 "tree" ⟨153, 50, 153, 54⟩) .nil)) 0 ⟨153, 43, 153, 55⟩) .nil)) 0 ⟨153, 35, 153, 55⟩) (.enu (.var 2 "rows" ⟨153, 69, 153, 73⟩) ⟨153, 59, 153, 68⟩ ⟨153, 59, 153, 74⟩) .nil { kind := PySem.ScopeKind.function, names := [ (PySem.Str.ofString ".0", PySem.NameKind.local), (PySem.Str.ofString "number", PySem.NameKind.local), (PySem.Str.ofString "path", PySem.NameKind.local), (PySem.Str.ofString "tree", PySem.NameKind.local)], isGenerator := false, isCoroutine := false, more := [] : PySem.Scope } [("number", 6), ("path", 3), ("tree", 4)] ⟨153, 17, 153, 75⟩
def e2_Code___init__ : E :=
  .comp false (.var 3 "path" ⟨154, 22, 154, 26⟩) (.tp (.cons (.nm 3 "path" ⟨154, 31, 154, 35⟩) (.cons (.nm 4 "tree" ⟨154, 37, 154, 41⟩) .nil)) 0 ⟨154, 31, 154, 41⟩) (.seq (.var 2 "rows" ⟨154, 45, 154, 49⟩)) .nil { kind := PySem.ScopeKind.function, names := [ (PySem.Str.ofString ".0", PySem.NameKind.local), (PySem.Str.ofString "path", PySem.NameKind.local), (PySem.Str.ofString "tree", PySem.NameKind.local)], isGenerator := false, isCoroutine := false, more := [] : PySem.Scope } [("path", 3), ("tree", 4)] ⟨154, 21, 154, 50⟩
def e3_Code___init__ : E :=
  .comp false (.var 4 "tree" ⟨155, 22, 155, 26⟩) (.tp (.cons (.nm 3 "path" ⟨155, 31, 155, 35⟩) (.cons (.nm 4 "tree" ⟨155, 37, 155, 41⟩) .nil)) 0 ⟨155, 31, 155, 41⟩) (.seq (.var 2 "rows" ⟨155, 45, 155, 49⟩)) .nil { kind := PySem.ScopeKind.function, names := [ (PySem.Str.ofString ".0", PySem.NameKind.local), (PySem.Str.ofString "path", PySem.NameKind.local), (PySem.Str.ofString "tree", PySem.NameKind.local)], isGenerator := false, isCoroutine := false, more := [] : PySem.Scope } [("path", 3), ("tree", 4)] ⟨155, 21, 155, 50⟩
def e4_Code___init__ : E :=
  .comp false (.lst true .nil ⟨156, 21, 156, 23⟩) (.nm 7 "row" ⟨156, 28, 156, 31⟩) (.seq (.var 2 "rows" ⟨156, 35, 156, 39⟩)) .nil { kind := PySem.ScopeKind.function, names := [(PySem.Str.ofString ".0", PySem.NameKind.local), (PySem.Str.ofString "row", PySem.NameKind.local)], isGenerator := false, isCoroutine := false, more := [] : PySem.Scope } [("row", 7)] ⟨156, 20, 156, 40⟩
def b5_Code___init__ : Ss :=
  (.cons (.ife (.cmp .Gt (.blt .len false ⟨158, 15, 158, 18⟩ (.var 3 "path" ⟨158, 19, 158, 23⟩) ⟨158, 15, 158, 24⟩) (.int 1 0 ⟨158, 27, 158, 28⟩) ⟨158, 15, 158, 28⟩) (.cons (.expr (.app (.ix (.fld (.var 0 "self" ⟨159, 16, 159, 20⟩) 6 "kids" ⟨159, 16, 159, 25⟩) (.ix (.var 5 "places" ⟨159, 26, 159, 32⟩) (.sl false (.var 3 "path" ⟨159, 33, 159, 37⟩) .nil (.cons (.neg (.int 1 0 ⟨159, 40, 159, 41⟩) ⟨159, 39, 159, 41⟩) .nil) ⟨159, 38, 159, 41⟩ ⟨159, 33, 159, 42⟩) ⟨159, 26, 159, 43⟩) ⟨159, 16, 159, 44⟩) (.ix (.var 5 "places" ⟨159, 52, 159, 58⟩) (.var 3 "path" ⟨159, 59, 159, 63⟩) ⟨159, 52, 159, 64⟩) ⟨159, 16, 159, 51⟩ ⟨159, 16, 159, 65⟩) ⟨159, 16, 159, 65⟩)
  .nil) .nil ⟨158, 12, 159, 65⟩)
  .nil)
def l6_Code___init__ : S :=
  .for_ (.tp (.cons (.nm 3 "path" ⟨157, 12, 157, 16⟩) (.cons (.nm 4 "tree" ⟨157, 18, 157, 22⟩) .nil)) 0 ⟨157, 12, 157, 22⟩) (.seq (.var 2 "rows" ⟨157, 26, 157, 30⟩)) b5_Code___init__ ⟨157, 8, 159, 65⟩
def e7_Code___init__ : E :=
  .dcm false (.ix (.var 8 "function" ⟨160, 23, 160, 31⟩) (.int 0 0 ⟨160, 32, 160, 33⟩) ⟨160, 23, 160, 34⟩) (.ix (.var 5 "places" ⟨160, 36, 160, 42⟩) (.tup (.cons (.var 6 "number" ⟨160, 43, 160, 49⟩) .nil) 0 ⟨160, 43, 160, 50⟩) ⟨160, 36, 160, 51⟩) (.tp (.cons (.nm 6 "number" ⟨160, 56, 160, 62⟩) (.cons (.nm 8 "function" ⟨160, 64, 160, 72⟩) .nil)) 0 ⟨160, 56, 160, 72⟩) (.enu (.ix (.var 1 "program" ⟨160, 86, 160, 93⟩) (.int 0 0 ⟨160, 94, 160, 95⟩) ⟨160, 86, 160, 96⟩) ⟨160, 76, 160, 85⟩ ⟨160, 76, 160, 97⟩) .nil { kind := PySem.ScopeKind.function, names := [ (PySem.Str.ofString ".0", PySem.NameKind.local), (PySem.Str.ofString "number", PySem.NameKind.local), (PySem.Str.ofString "function", PySem.NameKind.local), (PySem.Str.ofString "places", PySem.NameKind.free)], isGenerator := false, isCoroutine := false, more := [] : PySem.Scope } [("number", 6), ("function", 8)] ⟨160, 22, 160, 98⟩
def b_Code___init__ : Ss :=
  (.cons (.set 2 "rows" ⟨152, 8, 152, 12⟩ (.call 16 "trees_of" ⟨152, 15, 152, 23⟩ (.cons (.var 1 "program" ⟨152, 24, 152, 31⟩) .nil) ⟨152, 15, 152, 32⟩) ⟨152, 8, 152, 32⟩)
  (.cons (.set 5 "places" ⟨153, 8, 153, 14⟩ e1_Code___init__ ⟨153, 8, 153, 75⟩)
  (.cons (.sfld (.var 0 "self" ⟨154, 8, 154, 12⟩) 4 "paths" ⟨154, 8, 154, 18⟩ e2_Code___init__ ⟨154, 8, 154, 50⟩)
  (.cons (.sfld (.var 0 "self" ⟨155, 8, 155, 12⟩) 5 "trees" ⟨155, 8, 155, 18⟩ e3_Code___init__ ⟨155, 8, 155, 50⟩)
  (.cons (.sfld (.var 0 "self" ⟨156, 8, 156, 12⟩) 6 "kids" ⟨156, 8, 156, 17⟩ e4_Code___init__ ⟨156, 8, 156, 40⟩)
  (.cons l6_Code___init__
  (.cons (.sfld (.var 0 "self" ⟨160, 8, 160, 12⟩) 7 "bodies" ⟨160, 8, 160, 19⟩ e7_Code___init__ ⟨160, 8, 160, 98⟩)
  (.cons (.sfld (.var 0 "self" ⟨161, 8, 161, 12⟩) 8 "main" ⟨161, 8, 161, 17⟩ (.ix (.var 5 "places" ⟨161, 20, 161, 26⟩) (.tup (.cons (.neg (.int 1 0 ⟨161, 28, 161, 29⟩) ⟨161, 27, 161, 29⟩) .nil) 0 ⟨161, 27, 161, 30⟩) ⟨161, 20, 161, 31⟩) ⟨161, 8, 161, 31⟩)
  (.cons (.sfld (.var 0 "self" ⟨162, 8, 162, 12⟩) 9 "variables" ⟨162, 8, 162, 22⟩ (.call 17 "variables_of" ⟨162, 25, 162, 37⟩ (.cons (.var 1 "program" ⟨162, 38, 162, 45⟩) .nil) ⟨162, 25, 162, 46⟩) ⟨162, 8, 162, 46⟩)
  .nil)))))))))
def f_Code___init__ : Fn := ⟨["self", "program"], ["self", "program", "rows", "path", "tree", "places", "number", "row", "function"], b_Code___init__⟩
def d_Code___init__ : Df := ⟨("Code", some ("__init__" : Str)), "__init__", "Code.__init__", inClass (top 37) 0, f_Code___init__⟩
def b_ShellData___init__ : Ss :=
  (.cons (.ats [.at_ (.var 0 "self" ⟨166, 8, 166, 12⟩) 9 "variables" ⟨166, 8, 166, 22⟩, .at_ (.var 0 "self" ⟨166, 24, 166, 28⟩) 10 "options" ⟨166, 24, 166, 36⟩, .at_ (.var 0 "self" ⟨166, 38, 166, 42⟩) 11 "base" ⟨166, 38, 166, 47⟩] 0 ⟨166, 8, 166, 47⟩ (.tup (.cons (.var 1 "variables" ⟨166, 51, 166, 60⟩) (.cons (.var 2 "options" ⟨166, 62, 166, 69⟩) (.cons (.var 3 "base" ⟨166, 71, 166, 75⟩) .nil))) 0 ⟨166, 50, 166, 76⟩) ⟨166, 8, 166, 76⟩)
  (.cons (.sfld (.var 0 "self" ⟨167, 8, 167, 12⟩) 12 "traps" ⟨167, 8, 167, 18⟩ (.dsp [([101, 110, 100], 0, ⟨167, 22, 167, 27⟩), ([102, 97, 105, 108], 0, ⟨167, 35, 167, 41⟩)] (.cons (.non 0 ⟨167, 29, 167, 33⟩) (.cons (.non 0 ⟨167, 43, 167, 47⟩) .nil)) ⟨167, 21, 167, 48⟩) ⟨167, 8, 167, 48⟩)
  (.cons (.sfld (.var 0 "self" ⟨168, 8, 168, 12⟩) 13 "is_trapped" ⟨168, 8, 168, 23⟩ (.bl false 0 ⟨168, 26, 168, 31⟩) ⟨168, 8, 168, 31⟩)
  .nil)))
def f_ShellData___init__ : Fn := ⟨["self", "variables", "options", "base"], ["self", "variables", "options", "base"], b_ShellData___init__⟩
def d_ShellData___init__ : Df := ⟨("ShellData", some ("__init__" : Str)), "__init__", "ShellData.__init__", inClass (top 38) 0, f_ShellData___init__⟩
def b_ShellData_twin : Ss :=
  (.cons (.expr (.call 0 "_wall" ⟨171, 8, 171, 13⟩ (.cons (.int 0 0 ⟨171, 14, 171, 15⟩) .nil) ⟨171, 8, 171, 16⟩) ⟨171, 8, 171, 16⟩)
  .nil)
def f_ShellData_twin : Fn := ⟨["self"], ["self"], b_ShellData_twin⟩
def d_ShellData_twin : Df := ⟨("ShellData", some ("twin" : Str)), "twin", "ShellData.twin", inClass (top 38) 1, f_ShellData_twin⟩
def b_ShellData_key : Ss :=
  (.cons (.expr (.call 0 "_wall" ⟨174, 8, 174, 13⟩ (.cons (.int 1 0 ⟨174, 14, 174, 15⟩) .nil) ⟨174, 8, 174, 16⟩) ⟨174, 8, 174, 16⟩)
  .nil)
def f_ShellData_key : Fn := ⟨["self"], ["self"], b_ShellData_key⟩
def d_ShellData_key : Df := ⟨("ShellData", some ("key" : Str)), "key", "ShellData.key", inClass (top 38) 2, f_ShellData_key⟩
def e1_Player___init__ : E :=
  .dcm false (.var 2 "name" ⟨179, 34, 179, 38⟩) (.int 0 0 ⟨179, 40, 179, 41⟩) (.nm 2 "name" ⟨179, 46, 179, 50⟩) (.seq (.fld (.var 1 "code" ⟨179, 54, 179, 58⟩) 9 "variables" ⟨179, 54, 179, 68⟩)) .nil { kind := PySem.ScopeKind.function, names := [(PySem.Str.ofString ".0", PySem.NameKind.local), (PySem.Str.ofString "name", PySem.NameKind.local)], isGenerator := false, isCoroutine := false, more := [] : PySem.Scope } [("name", 2)] ⟨179, 33, 179, 69⟩
def b_Player___init__ : Ss :=
  (.cons (.ats [.at_ (.var 0 "self" ⟨178, 8, 178, 12⟩) 14 "code" ⟨178, 8, 178, 17⟩, .at_ (.var 0 "self" ⟨178, 19, 178, 23⟩) 15 "frames" ⟨178, 19, 178, 30⟩] 0 ⟨178, 8, 178, 30⟩ (.tup (.cons (.var 1 "code" ⟨178, 34, 178, 38⟩) (.cons (.lst true .nil ⟨178, 40, 178, 42⟩) .nil)) 0 ⟨178, 33, 178, 43⟩) ⟨178, 8, 178, 43⟩)
  (.cons (.sfld (.var 0 "self" ⟨179, 8, 179, 12⟩) 16 "shells" ⟨179, 8, 179, 19⟩ (.lst true (.cons (.make 2 19 "ShellData" ⟨179, 23, 179, 32⟩ (.cons e1_Player___init__ (.cons (.dsp [([102, 97, 105, 108], 0, ⟨179, 72, 179, 78⟩), ([112, 105, 112, 101, 115], 0, ⟨179, 87, 179, 94⟩)] (.cons (.bl false 0 ⟨179, 80, 179, 85⟩) (.cons (.bl false 0 ⟨179, 96, 179, 101⟩) .nil)) ⟨179, 71, 179, 102⟩) (.cons (.int 0 0 ⟨179, 104, 179, 105⟩) .nil))) ⟨179, 23, 179, 106⟩) .nil) ⟨179, 22, 179, 107⟩) ⟨179, 8, 179, 107⟩)
  (.cons (.ats [.at_ (.var 0 "self" ⟨180, 8, 180, 12⟩) 17 "last" ⟨180, 8, 180, 17⟩, .at_ (.var 0 "self" ⟨180, 19, 180, 23⟩) 18 "asked" ⟨180, 19, 180, 29⟩, .at_ (.var 0 "self" ⟨180, 31, 180, 35⟩) 19 "ended" ⟨180, 31, 180, 41⟩, .at_ (.var 0 "self" ⟨180, 43, 180, 47⟩) 20 "is_silent" ⟨180, 43, 180, 57⟩] 0 ⟨180, 8, 180, 57⟩ (.tup (.cons (.int 0 0 ⟨180, 61, 180, 62⟩) (.cons (.non 0 ⟨180, 64, 180, 68⟩) (.cons (.non 0 ⟨180, 70, 180, 74⟩) (.cons (.bl false 0 ⟨180, 76, 180, 81⟩) .nil)))) 0 ⟨180, 60, 180, 82⟩) ⟨180, 8, 180, 82⟩)
  (.cons (.ats [.at_ (.var 0 "self" ⟨181, 8, 181, 12⟩) 21 "is_asked_tested" ⟨181, 8, 181, 28⟩, .at_ (.var 0 "self" ⟨181, 30, 181, 34⟩) 22 "begun" ⟨181, 30, 181, 40⟩, .at_ (.var 0 "self" ⟨181, 42, 181, 46⟩) 23 "coming" ⟨181, 42, 181, 53⟩] 0 ⟨181, 8, 181, 53⟩ (.tup (.cons (.bl false 0 ⟨181, 57, 181, 62⟩) (.cons (.int 0 0 ⟨181, 64, 181, 65⟩) (.cons (.tup (.cons (.fld (.var 1 "code" ⟨181, 68, 181, 72⟩) 8 "main" ⟨181, 68, 181, 77⟩) (.cons (.bl false 0 ⟨181, 79, 181, 84⟩) .nil)) 0 ⟨181, 67, 181, 85⟩) .nil))) 0 ⟨181, 56, 181, 86⟩) ⟨181, 8, 181, 86⟩)
  (.cons (.ats [.at_ (.var 0 "self" ⟨182, 8, 182, 12⟩) 24 "noted" ⟨182, 8, 182, 18⟩, .at_ (.var 0 "self" ⟨182, 20, 182, 24⟩) 25 "is_failing" ⟨182, 20, 182, 35⟩] 0 ⟨182, 8, 182, 35⟩ (.tup (.cons (.lst true .nil ⟨182, 39, 182, 41⟩) (.cons (.bl false 0 ⟨182, 43, 182, 48⟩) .nil)) 0 ⟨182, 38, 182, 49⟩) ⟨182, 8, 182, 49⟩)
  .nil)))))
def f_Player___init__ : Fn := ⟨["self", "code"], ["self", "code", "name"], b_Player___init__⟩
def d_Player___init__ : Df := ⟨("Player", some ("__init__" : Str)), "__init__", "Player.__init__", inClass (top 39) 0, f_Player___init__⟩
def b_Player_twin : Ss :=
  (.cons (.expr (.call 0 "_wall" ⟨185, 8, 185, 13⟩ (.cons (.int 2 0 ⟨185, 14, 185, 15⟩) .nil) ⟨185, 8, 185, 16⟩) ⟨185, 8, 185, 16⟩)
  .nil)
def f_Player_twin : Fn := ⟨["self"], ["self"], b_Player_twin⟩
def d_Player_twin : Df := ⟨("Player", some ("twin" : Str)), "twin", "Player.twin", inClass (top 39) 1, f_Player_twin⟩
def b_Player_tell : Ss :=
  (.cons (.ats [.nm 2 "number" ⟨188, 8, 188, 14⟩, .at_ (.var 0 "self" ⟨188, 16, 188, 20⟩) 18 "asked" ⟨188, 16, 188, 26⟩, .at_ (.var 0 "self" ⟨188, 28, 188, 32⟩) 17 "last" ⟨188, 28, 188, 37⟩] 0 ⟨188, 8, 188, 37⟩ (.tup (.cons (.fld (.var 0 "self" ⟨188, 41, 188, 45⟩) 18 "asked" ⟨188, 41, 188, 51⟩) (.cons (.non 0 ⟨188, 53, 188, 57⟩) (.cons (.var 1 "status" ⟨188, 59, 188, 65⟩) .nil))) 0 ⟨188, 40, 188, 66⟩) ⟨188, 8, 188, 66⟩)
  (.cons (.ats [.at_ (.var 0 "self" ⟨189, 8, 189, 12⟩) 22 "begun" ⟨189, 8, 189, 18⟩, .at_ (.var 0 "self" ⟨189, 20, 189, 24⟩) 24 "noted" ⟨189, 20, 189, 30⟩] 0 ⟨189, 8, 189, 30⟩ (.tup (.cons (.int 0 0 ⟨189, 34, 189, 35⟩) (.cons (.lst true .nil ⟨189, 37, 189, 39⟩) .nil)) 0 ⟨189, 33, 189, 40⟩) ⟨189, 8, 189, 40⟩)
  (.cons (.expr (.meth 3 40 (.var 0 "self" ⟨190, 8, 190, 12⟩) "check" ⟨190, 8, 190, 18⟩ (.cons (.fld (.var 0 "self" ⟨190, 19, 190, 23⟩) 21 "is_asked_tested" ⟨190, 19, 190, 39⟩) (.cons (.var 2 "number" ⟨190, 41, 190, 47⟩) .nil)) ⟨190, 8, 190, 48⟩) ⟨190, 8, 190, 48⟩)
  (.cons (.expr (.meth 3 25 (.var 0 "self" ⟨191, 8, 191, 12⟩) "go_on" ⟨191, 8, 191, 18⟩ .nil ⟨191, 8, 191, 20⟩) ⟨191, 8, 191, 20⟩)
  .nil))))
def f_Player_tell : Fn := ⟨["self", "status"], ["self", "status", "number"], b_Player_tell⟩
def d_Player_tell : Df := ⟨("Player", some ("tell" : Str)), "tell", "Player.tell", inClass (top 39) 2, f_Player_tell⟩
def b1_Player_go_on : Ss :=
  (.cons (.ife (.fld (.var 0 "self" ⟨195, 15, 195, 19⟩) 25 "is_failing" ⟨195, 15, 195, 30⟩) (.cons (.sfld (.var 0 "self" ⟨196, 16, 196, 20⟩) 25 "is_failing" ⟨196, 16, 196, 31⟩ (.bl false 0 ⟨196, 34, 196, 39⟩) ⟨196, 16, 196, 39⟩)
  (.cons (.expr (.meth 3 42 (.var 0 "self" ⟨197, 16, 197, 20⟩) "end_shell" ⟨197, 16, 197, 30⟩ (.cons (.fld (.var 0 "self" ⟨197, 31, 197, 35⟩) 17 "last" ⟨197, 31, 197, 40⟩) .nil) ⟨197, 16, 197, 41⟩) ⟨197, 16, 197, 41⟩)
  .nil)) (.cons (.ife (.isN false (.fld (.var 0 "self" ⟨198, 17, 198, 21⟩) 23 "coming" ⟨198, 17, 198, 28⟩) 0 ⟨198, 32, 198, 36⟩ ⟨198, 17, 198, 36⟩) (.cons (.expr (.meth 3 34 (.var 0 "self" ⟨199, 16, 199, 20⟩) "back" ⟨199, 16, 199, 25⟩ .nil ⟨199, 16, 199, 27⟩) ⟨199, 16, 199, 27⟩)
  .nil) (.cons (.unp (.cons (.nm 1 "number" ⟨201, 16, 201, 22⟩) (.cons (.nm 2 "is_tested" ⟨201, 24, 201, 33⟩) .nil)) 0 ⟨201, 16, 201, 33⟩ (.fld (.var 0 "self" ⟨201, 36, 201, 40⟩) 23 "coming" ⟨201, 36, 201, 47⟩) ⟨201, 16, 201, 47⟩)
  (.cons (.ats [.at_ (.var 0 "self" ⟨202, 16, 202, 20⟩) 23 "coming" ⟨202, 16, 202, 27⟩, .at_ (.var 0 "self" ⟨202, 29, 202, 33⟩) 22 "begun" ⟨202, 29, 202, 39⟩] 0 ⟨202, 16, 202, 39⟩ (.tup (.cons (.non 0 ⟨202, 43, 202, 47⟩) (.cons (.bin false .Add (.fld (.var 0 "self" ⟨202, 49, 202, 53⟩) 22 "begun" ⟨202, 49, 202, 59⟩) (.int 1 0 ⟨202, 62, 202, 63⟩) ⟨202, 49, 202, 63⟩) .nil)) 0 ⟨202, 42, 202, 64⟩) ⟨202, 16, 202, 64⟩)
  (.cons (.ife (.cmp .Gt (.fld (.var 0 "self" ⟨203, 19, 203, 23⟩) 22 "begun" ⟨203, 19, 203, 29⟩) (.glb (.int 1000) "MAX_SILENT" ⟨203, 32, 203, 42⟩) ⟨203, 19, 203, 42⟩) (.cons (.sfld (.var 0 "self" ⟨204, 20, 204, 24⟩) 20 "is_silent" ⟨204, 20, 204, 34⟩ (.bl true 0 ⟨204, 37, 204, 41⟩) ⟨204, 20, 204, 41⟩)
  .nil) (.cons (.expr (.app (.fld (.var 0 "self" ⟨206, 20, 206, 24⟩) 24 "noted" ⟨206, 20, 206, 30⟩) (.var 1 "number" ⟨206, 38, 206, 44⟩) ⟨206, 20, 206, 37⟩ ⟨206, 20, 206, 45⟩) ⟨206, 20, 206, 45⟩)
  (.cons (.expr (.meth 3 26 (.var 0 "self" ⟨207, 20, 207, 24⟩) "begin" ⟨207, 20, 207, 30⟩ (.cons (.var 1 "number" ⟨207, 31, 207, 37⟩) (.cons (.ix (.fld (.fld (.var 0 "self" ⟨207, 39, 207, 43⟩) 14 "code" ⟨207, 39, 207, 48⟩) 5 "trees" ⟨207, 39, 207, 54⟩) (.var 1 "number" ⟨207, 55, 207, 61⟩) ⟨207, 39, 207, 62⟩) (.cons (.var 2 "is_tested" ⟨207, 64, 207, 73⟩) .nil))) ⟨207, 20, 207, 74⟩) ⟨207, 20, 207, 74⟩)
  .nil)) ⟨203, 16, 207, 74⟩)
  .nil))) ⟨198, 12, 207, 74⟩)
  .nil) ⟨195, 12, 207, 74⟩)
  .nil)
def l2_Player_go_on : S :=
  .whl (.bop .And (.cons (.isN false (.fld (.var 0 "self" ⟨194, 14, 194, 18⟩) 18 "asked" ⟨194, 14, 194, 24⟩) 0 ⟨194, 28, 194, 32⟩ ⟨194, 14, 194, 32⟩) (.cons (.isN false (.fld (.var 0 "self" ⟨194, 37, 194, 41⟩) 19 "ended" ⟨194, 37, 194, 47⟩) 0 ⟨194, 51, 194, 55⟩ ⟨194, 37, 194, 55⟩) (.cons (.not (.fld (.var 0 "self" ⟨194, 65, 194, 69⟩) 20 "is_silent" ⟨194, 65, 194, 79⟩) ⟨194, 61, 194, 79⟩) .nil))) ⟨194, 14, 194, 80⟩) b1_Player_go_on ⟨194, 8, 207, 74⟩
def b_Player_go_on : Ss :=
  (.cons l2_Player_go_on
  .nil)
def f_Player_go_on : Fn := ⟨["self"], ["self", "number", "is_tested"], b_Player_go_on⟩
def d_Player_go_on : Df := ⟨("Player", some ("go_on" : Str)), "go_on", "Player.go_on", inClass (top 39) 3, f_Player_go_on⟩
def b_Player_begin : Ss :=
  (.cons (.set 4 "word" ⟨210, 8, 210, 12⟩ (.ix (.var 2 "tree" ⟨210, 15, 210, 19⟩) (.int 0 0 ⟨210, 20, 210, 21⟩) ⟨210, 15, 210, 22⟩) ⟨210, 8, 210, 22⟩)
  (.cons (.ife (.cmp .Eq (.var 4 "word" ⟨211, 11, 211, 15⟩) (.str [114, 117, 110] 0 ⟨211, 19, 211, 24⟩) ⟨211, 11, 211, 24⟩) (.cons (.ats [.at_ (.var 0 "self" ⟨212, 12, 212, 16⟩) 18 "asked" ⟨212, 12, 212, 22⟩, .at_ (.var 0 "self" ⟨212, 24, 212, 28⟩) 21 "is_asked_tested" ⟨212, 24, 212, 44⟩] 0 ⟨212, 12, 212, 44⟩ (.tup (.cons (.var 1 "number" ⟨212, 48, 212, 54⟩) (.cons (.var 3 "is_tested" ⟨212, 56, 212, 65⟩) .nil)) 0 ⟨212, 47, 212, 66⟩) ⟨212, 12, 212, 66⟩)
  .nil) (.cons (.ife (.cmp .In (.var 4 "word" ⟨213, 13, 213, 17⟩) (.tup (.cons (.str [115, 116, 97, 116, 117, 115] 0 ⟨213, 22, 213, 30⟩) (.cons (.str [103, 105, 118, 101] 0 ⟨213, 32, 213, 38⟩) (.cons (.str [122, 101, 114, 111] 0 ⟨213, 40, 213, 46⟩) .nil))) 0 ⟨213, 21, 213, 47⟩) ⟨213, 13, 213, 47⟩) (.cons (.sfld (.var 0 "self" ⟨214, 12, 214, 16⟩) 17 "last" ⟨214, 12, 214, 21⟩ (.meth 3 27 (.var 0 "self" ⟨214, 24, 214, 28⟩) "value_of" ⟨214, 24, 214, 37⟩ (.cons (.var 2 "tree" ⟨214, 38, 214, 42⟩) .nil) ⟨214, 24, 214, 43⟩) ⟨214, 12, 214, 43⟩)
  (.cons (.expr (.meth 3 40 (.var 0 "self" ⟨215, 12, 215, 16⟩) "check" ⟨215, 12, 215, 22⟩ (.cons (.var 3 "is_tested" ⟨215, 23, 215, 32⟩) (.cons (.var 1 "number" ⟨215, 34, 215, 40⟩) .nil)) ⟨215, 12, 215, 41⟩) ⟨215, 12, 215, 41⟩)
  .nil)) (.cons (.ife (.cmp .In (.var 4 "word" ⟨216, 13, 216, 17⟩) (.tup (.cons (.str [107, 101, 101, 112] 0 ⟨216, 22, 216, 28⟩) (.cons (.str [112, 117, 116] 0 ⟨216, 30, 216, 35⟩) (.cons (.str [111, 112, 116, 105, 111, 110] 0 ⟨216, 37, 216, 45⟩) (.cons (.str [116, 114, 97, 112] 0 ⟨216, 47, 216, 53⟩) .nil)))) 0 ⟨216, 21, 216, 54⟩) ⟨216, 13, 216, 54⟩) (.cons (.expr (.meth 3 28 (.var 0 "self" ⟨217, 12, 217, 16⟩) "set_data" ⟨217, 12, 217, 25⟩ (.cons (.var 1 "number" ⟨217, 26, 217, 32⟩) (.cons (.var 2 "tree" ⟨217, 34, 217, 38⟩) .nil)) ⟨217, 12, 217, 39⟩) ⟨217, 12, 217, 39⟩)
  .nil) (.cons (.ife (.cmp .In (.var 4 "word" ⟨218, 13, 218, 17⟩) (.tup (.cons (.str [98, 114, 101, 97, 107] 0 ⟨218, 22, 218, 29⟩) (.cons (.str [110, 101, 120, 116] 0 ⟨218, 31, 218, 37⟩) .nil)) 0 ⟨218, 21, 218, 38⟩) ⟨218, 13, 218, 38⟩) (.cons (.expr (.meth 3 37 (.var 0 "self" ⟨219, 12, 219, 16⟩) "leave_loops" ⟨219, 12, 219, 28⟩ (.cons (.var 4 "word" ⟨219, 29, 219, 33⟩) (.cons (.ix (.var 2 "tree" ⟨219, 35, 219, 39⟩) (.int 1 0 ⟨219, 40, 219, 41⟩) ⟨219, 35, 219, 42⟩) .nil)) ⟨219, 12, 219, 43⟩) ⟨219, 12, 219, 43⟩)
  .nil) (.cons (.ife (.cmp .Eq (.var 4 "word" ⟨220, 13, 220, 17⟩) (.str [114, 101, 116, 117, 114, 110] 0 ⟨220, 21, 220, 29⟩) ⟨220, 13, 220, 29⟩) (.cons (.expr (.meth 3 38 (.var 0 "self" ⟨221, 12, 221, 16⟩) "leave_call" ⟨221, 12, 221, 27⟩ (.cons (.ix (.var 2 "tree" ⟨221, 28, 221, 32⟩) (.int 1 0 ⟨221, 33, 221, 34⟩) ⟨221, 28, 221, 35⟩) .nil) ⟨221, 12, 221, 36⟩) ⟨221, 12, 221, 36⟩)
  .nil) (.cons (.ife (.cmp .Eq (.var 4 "word" ⟨222, 13, 222, 17⟩) (.str [101, 120, 105, 116] 0 ⟨222, 21, 222, 27⟩) ⟨222, 13, 222, 27⟩) (.cons (.expr (.meth 3 42 (.var 0 "self" ⟨223, 12, 223, 16⟩) "end_shell" ⟨223, 12, 223, 26⟩ (.cons (.ite (.isN false (.ix (.var 2 "tree" ⟨223, 49, 223, 53⟩) (.int 1 0 ⟨223, 54, 223, 55⟩) ⟨223, 49, 223, 56⟩) 0 ⟨223, 60, 223, 64⟩ ⟨223, 49, 223, 64⟩) (.meth 3 39 (.var 0 "self" ⟨223, 27, 223, 31⟩) "exit_status" ⟨223, 27, 223, 43⟩ .nil ⟨223, 27, 223, 45⟩) (.ix (.var 2 "tree" ⟨223, 70, 223, 74⟩) (.int 1 0 ⟨223, 75, 223, 76⟩) ⟨223, 70, 223, 77⟩) ⟨223, 27, 223, 77⟩) .nil) ⟨223, 12, 223, 78⟩) ⟨223, 12, 223, 78⟩)
  .nil) (.cons (.expr (.meth 3 29 (.var 0 "self" ⟨225, 12, 225, 16⟩) "open_tree" ⟨225, 12, 225, 26⟩ (.cons (.var 1 "number" ⟨225, 27, 225, 33⟩) (.cons (.var 2 "tree" ⟨225, 35, 225, 39⟩) (.cons (.var 3 "is_tested" ⟨225, 41, 225, 50⟩) .nil))) ⟨225, 12, 225, 51⟩) ⟨225, 12, 225, 51⟩)
  .nil) ⟨222, 8, 225, 51⟩)
  .nil) ⟨220, 8, 225, 51⟩)
  .nil) ⟨218, 8, 225, 51⟩)
  .nil) ⟨216, 8, 225, 51⟩)
  .nil) ⟨213, 8, 225, 51⟩)
  .nil) ⟨211, 8, 225, 51⟩)
  .nil))
def f_Player_begin : Fn := ⟨["self", "number", "tree", "is_tested"], ["self", "number", "tree", "is_tested", "word"], b_Player_begin⟩
def d_Player_begin : Df := ⟨("Player", some ("begin" : Str)), "begin", "Player.begin", inClass (top 39) 4, f_Player_begin⟩
def b_Player_value_of : Ss :=
  (.cons (.ife (.cmp .Eq (.ix (.var 1 "tree" ⟨228, 11, 228, 15⟩) (.int 0 0 ⟨228, 16, 228, 17⟩) ⟨228, 11, 228, 18⟩) (.str [115, 116, 97, 116, 117, 115] 0 ⟨228, 22, 228, 30⟩) ⟨228, 11, 228, 30⟩) (.cons (.ret (.ix (.var 1 "tree" ⟨229, 19, 229, 23⟩) (.int 1 0 ⟨229, 24, 229, 25⟩) ⟨229, 19, 229, 26⟩) ⟨229, 12, 229, 26⟩)
  .nil) .nil ⟨228, 8, 229, 26⟩)
  (.cons (.set 2 "value" ⟨230, 8, 230, 13⟩ (.ix (.fld (.ix (.fld (.var 0 "self" ⟨230, 16, 230, 20⟩) 16 "shells" ⟨230, 16, 230, 27⟩) (.neg (.int 1 0 ⟨230, 29, 230, 30⟩) ⟨230, 28, 230, 30⟩) ⟨230, 16, 230, 31⟩) 9 "variables" ⟨230, 16, 230, 41⟩) (.ix (.var 1 "tree" ⟨230, 42, 230, 46⟩) (.int 1 0 ⟨230, 47, 230, 48⟩) ⟨230, 42, 230, 49⟩) ⟨230, 16, 230, 50⟩) ⟨230, 8, 230, 50⟩)
  (.cons (.ret (.ite (.cmp .Eq (.ix (.var 1 "tree" ⟨231, 24, 231, 28⟩) (.int 0 0 ⟨231, 29, 231, 30⟩) ⟨231, 24, 231, 31⟩) (.str [103, 105, 118, 101] 0 ⟨231, 35, 231, 41⟩) ⟨231, 24, 231, 41⟩) (.var 2 "value" ⟨231, 15, 231, 20⟩) (.blt .int false ⟨231, 47, 231, 50⟩ (.cmp .NotEq (.var 2 "value" ⟨231, 51, 231, 56⟩) (.int 0 0 ⟨231, 60, 231, 61⟩) ⟨231, 51, 231, 61⟩) ⟨231, 47, 231, 62⟩) ⟨231, 15, 231, 62⟩) ⟨231, 8, 231, 62⟩)
  .nil)))
def f_Player_value_of : Fn := ⟨["self", "tree"], ["self", "tree", "value"], b_Player_value_of⟩
def d_Player_value_of : Df := ⟨("Player", some ("value_of" : Str)), "value_of", "Player.value_of", inClass (top 39) 5, f_Player_value_of⟩
def b_Player_set_data : Ss :=
  (.cons (.set 3 "shell" ⟨234, 8, 234, 13⟩ (.ix (.fld (.var 0 "self" ⟨234, 16, 234, 20⟩) 16 "shells" ⟨234, 16, 234, 27⟩) (.neg (.int 1 0 ⟨234, 29, 234, 30⟩) ⟨234, 28, 234, 30⟩) ⟨234, 16, 234, 31⟩) ⟨234, 8, 234, 31⟩)
  (.cons (.ife (.cmp .Eq (.ix (.var 2 "tree" ⟨235, 11, 235, 15⟩) (.int 0 0 ⟨235, 16, 235, 17⟩) ⟨235, 11, 235, 18⟩) (.str [107, 101, 101, 112] 0 ⟨235, 22, 235, 28⟩) ⟨235, 11, 235, 28⟩) (.cons (.ssub (.fld (.var 3 "shell" ⟨236, 12, 236, 17⟩) 9 "variables" ⟨236, 12, 236, 27⟩) (.ix (.var 2 "tree" ⟨236, 28, 236, 32⟩) (.int 1 0 ⟨236, 33, 236, 34⟩) ⟨236, 28, 236, 35⟩) ⟨236, 12, 236, 36⟩ (.fld (.var 0 "self" ⟨236, 39, 236, 43⟩) 17 "last" ⟨236, 39, 236, 48⟩) ⟨236, 12, 236, 48⟩)
  .nil) (.cons (.ife (.cmp .Eq (.ix (.var 2 "tree" ⟨237, 13, 237, 17⟩) (.int 0 0 ⟨237, 18, 237, 19⟩) ⟨237, 13, 237, 20⟩) (.str [112, 117, 116] 0 ⟨237, 24, 237, 29⟩) ⟨237, 13, 237, 29⟩) (.cons (.ssub (.fld (.var 3 "shell" ⟨238, 12, 238, 17⟩) 9 "variables" ⟨238, 12, 238, 27⟩) (.ix (.var 2 "tree" ⟨238, 28, 238, 32⟩) (.int 1 0 ⟨238, 33, 238, 34⟩) ⟨238, 28, 238, 35⟩) ⟨238, 12, 238, 36⟩ (.ix (.var 2 "tree" ⟨238, 39, 238, 43⟩) (.int 2 0 ⟨238, 44, 238, 45⟩) ⟨238, 39, 238, 46⟩) ⟨238, 12, 238, 46⟩)
  .nil) (.cons (.ife (.cmp .Eq (.ix (.var 2 "tree" ⟨239, 13, 239, 17⟩) (.int 0 0 ⟨239, 18, 239, 19⟩) ⟨239, 13, 239, 20⟩) (.str [111, 112, 116, 105, 111, 110] 0 ⟨239, 24, 239, 32⟩) ⟨239, 13, 239, 32⟩) (.cons (.ssub (.fld (.var 3 "shell" ⟨240, 12, 240, 17⟩) 10 "options" ⟨240, 12, 240, 25⟩) (.ix (.var 2 "tree" ⟨240, 26, 240, 30⟩) (.int 1 0 ⟨240, 31, 240, 32⟩) ⟨240, 26, 240, 33⟩) ⟨240, 12, 240, 34⟩ (.ix (.var 2 "tree" ⟨240, 37, 240, 41⟩) (.int 2 0 ⟨240, 42, 240, 43⟩) ⟨240, 37, 240, 44⟩) ⟨240, 12, 240, 44⟩)
  .nil) (.cons (.ssub (.fld (.var 3 "shell" ⟨242, 12, 242, 17⟩) 12 "traps" ⟨242, 12, 242, 23⟩) (.ix (.var 2 "tree" ⟨242, 24, 242, 28⟩) (.int 1 0 ⟨242, 29, 242, 30⟩) ⟨242, 24, 242, 31⟩) ⟨242, 12, 242, 32⟩ (.ite (.isN false (.ix (.var 2 "tree" ⟨242, 43, 242, 47⟩) (.int 2 0 ⟨242, 48, 242, 49⟩) ⟨242, 43, 242, 50⟩) 0 ⟨242, 54, 242, 58⟩ ⟨242, 43, 242, 58⟩) (.non 0 ⟨242, 35, 242, 39⟩) (.var 1 "number" ⟨242, 64, 242, 70⟩) ⟨242, 35, 242, 70⟩) ⟨242, 12, 242, 70⟩)
  .nil) ⟨239, 8, 242, 70⟩)
  .nil) ⟨237, 8, 242, 70⟩)
  .nil) ⟨235, 8, 242, 70⟩)
  (.cons (.sfld (.var 0 "self" ⟨243, 8, 243, 12⟩) 17 "last" ⟨243, 8, 243, 17⟩ (.int 0 0 ⟨243, 20, 243, 21⟩) ⟨243, 8, 243, 21⟩)
  .nil)))
def f_Player_set_data : Fn := ⟨["self", "number", "tree"], ["self", "number", "tree", "shell"], b_Player_set_data⟩
def d_Player_set_data : Df := ⟨("Player", some ("set_data" : Str)), "set_data", "Player.set_data", inClass (top 39) 6, f_Player_set_data⟩
def b_Player_open_tree : Ss :=
  (.cons (.par 4 5 "word" "kids" ⟨246, 8, 246, 12⟩ ⟨246, 14, 246, 18⟩ ⟨246, 8, 246, 18⟩ 0 (.ix (.var 2 "tree" ⟨246, 22, 246, 26⟩) (.int 0 0 ⟨246, 27, 246, 28⟩) ⟨246, 22, 246, 29⟩) (.ix (.fld (.fld (.var 0 "self" ⟨246, 31, 246, 35⟩) 14 "code" ⟨246, 31, 246, 40⟩) 6 "kids" ⟨246, 31, 246, 45⟩) (.var 1 "number" ⟨246, 46, 246, 52⟩) ⟨246, 31, 246, 53⟩) 0 ⟨246, 21, 246, 54⟩ ⟨246, 8, 246, 54⟩)
  (.cons (.ife (.cmp .Eq (.var 4 "word" ⟨247, 11, 247, 15⟩) (.str [115, 101, 113] 0 ⟨247, 19, 247, 24⟩) ⟨247, 11, 247, 24⟩) (.cons (.expr (.app (.fld (.var 0 "self" ⟨248, 12, 248, 16⟩) 15 "frames" ⟨248, 12, 248, 23⟩) (.tup (.cons (.str [115, 101, 113] 0 ⟨248, 32, 248, 37⟩) (.cons (.var 1 "number" ⟨248, 39, 248, 45⟩) (.cons (.int 0 0 ⟨248, 47, 248, 48⟩) (.cons (.var 3 "is_tested" ⟨248, 50, 248, 59⟩) .nil)))) 0 ⟨248, 31, 248, 60⟩) ⟨248, 12, 248, 30⟩ ⟨248, 12, 248, 61⟩) ⟨248, 12, 248, 61⟩)
  (.cons (.sfld (.var 0 "self" ⟨249, 12, 249, 16⟩) 23 "coming" ⟨249, 12, 249, 23⟩ (.tup (.cons (.ix (.var 5 "kids" ⟨249, 27, 249, 31⟩) (.int 0 0 ⟨249, 32, 249, 33⟩) ⟨249, 27, 249, 34⟩) (.cons (.var 3 "is_tested" ⟨249, 36, 249, 45⟩) .nil)) 0 ⟨249, 26, 249, 46⟩) ⟨249, 12, 249, 46⟩)
  .nil)) (.cons (.ife (.cmp .In (.var 4 "word" ⟨250, 13, 250, 17⟩) (.tup (.cons (.str [97, 110, 100] 0 ⟨250, 22, 250, 27⟩) (.cons (.str [111, 114] 0 ⟨250, 29, 250, 33⟩) (.cons (.str [105, 102] 0 ⟨250, 35, 250, 39⟩) .nil))) 0 ⟨250, 21, 250, 40⟩) ⟨250, 13, 250, 40⟩) (.cons (.expr (.app (.fld (.var 0 "self" ⟨251, 12, 251, 16⟩) 15 "frames" ⟨251, 12, 251, 23⟩) (.tup (.cons (.var 4 "word" ⟨251, 32, 251, 36⟩) (.cons (.var 1 "number" ⟨251, 38, 251, 44⟩) (.cons (.var 3 "is_tested" ⟨251, 46, 251, 55⟩) .nil))) 0 ⟨251, 31, 251, 56⟩) ⟨251, 12, 251, 30⟩ ⟨251, 12, 251, 57⟩) ⟨251, 12, 251, 57⟩)
  (.cons (.sfld (.var 0 "self" ⟨252, 12, 252, 16⟩) 23 "coming" ⟨252, 12, 252, 23⟩ (.tup (.cons (.ix (.var 5 "kids" ⟨252, 27, 252, 31⟩) (.int 0 0 ⟨252, 32, 252, 33⟩) ⟨252, 27, 252, 34⟩) (.cons (.bl true 0 ⟨252, 36, 252, 40⟩) .nil)) 0 ⟨252, 26, 252, 41⟩) ⟨252, 12, 252, 41⟩)
  .nil)) (.cons (.ife (.cmp .Eq (.var 4 "word" ⟨253, 13, 253, 17⟩) (.str [110, 111, 116] 0 ⟨253, 21, 253, 26⟩) ⟨253, 13, 253, 26⟩) (.cons (.expr (.app (.fld (.var 0 "self" ⟨254, 12, 254, 16⟩) 15 "frames" ⟨254, 12, 254, 23⟩) (.tup (.cons (.str [110, 111, 116] 0 ⟨254, 32, 254, 37⟩) .nil) 0 ⟨254, 31, 254, 39⟩) ⟨254, 12, 254, 30⟩ ⟨254, 12, 254, 40⟩) ⟨254, 12, 254, 40⟩)
  (.cons (.sfld (.var 0 "self" ⟨255, 12, 255, 16⟩) 23 "coming" ⟨255, 12, 255, 23⟩ (.tup (.cons (.ix (.var 5 "kids" ⟨255, 27, 255, 31⟩) (.int 0 0 ⟨255, 32, 255, 33⟩) ⟨255, 27, 255, 34⟩) (.cons (.bl true 0 ⟨255, 36, 255, 40⟩) .nil)) 0 ⟨255, 26, 255, 41⟩) ⟨255, 12, 255, 41⟩)
  .nil)) (.cons (.ife (.cmp .In (.var 4 "word" ⟨256, 13, 256, 17⟩) (.tup (.cons (.str [119, 104, 105, 108, 101] 0 ⟨256, 22, 256, 29⟩) (.cons (.str [117, 110, 116, 105, 108] 0 ⟨256, 31, 256, 38⟩) .nil)) 0 ⟨256, 21, 256, 39⟩) ⟨256, 13, 256, 39⟩) (.cons (.expr (.meth 3 30 (.var 0 "self" ⟨257, 12, 257, 16⟩) "ask_condition" ⟨257, 12, 257, 30⟩ (.cons (.var 1 "number" ⟨257, 31, 257, 37⟩) (.cons (.var 3 "is_tested" ⟨257, 39, 257, 48⟩) (.cons (.int 0 0 ⟨257, 50, 257, 51⟩) .nil))) ⟨257, 12, 257, 52⟩) ⟨257, 12, 257, 52⟩)
  .nil) (.cons (.ife (.cmp .Eq (.var 4 "word" ⟨258, 13, 258, 17⟩) (.str [116, 105, 109, 101, 115] 0 ⟨258, 21, 258, 28⟩) ⟨258, 13, 258, 28⟩) (.cons (.expr (.meth 3 31 (.var 0 "self" ⟨259, 12, 259, 16⟩) "next_round" ⟨259, 12, 259, 27⟩ (.cons (.var 1 "number" ⟨259, 28, 259, 34⟩) (.cons (.var 3 "is_tested" ⟨259, 36, 259, 45⟩) (.cons (.ix (.var 2 "tree" ⟨259, 47, 259, 51⟩) (.int 1 0 ⟨259, 52, 259, 53⟩) ⟨259, 47, 259, 54⟩) (.cons (.int 0 0 ⟨259, 56, 259, 57⟩) .nil)))) ⟨259, 12, 259, 58⟩) ⟨259, 12, 259, 58⟩)
  .nil) (.cons (.ife (.cmp .Eq (.var 4 "word" ⟨260, 13, 260, 17⟩) (.str [99, 97, 108, 108] 0 ⟨260, 21, 260, 27⟩) ⟨260, 13, 260, 27⟩) (.cons (.expr (.app (.fld (.var 0 "self" ⟨261, 12, 261, 16⟩) 15 "frames" ⟨261, 12, 261, 23⟩) (.tup (.cons (.str [99, 97, 108, 108] 0 ⟨261, 32, 261, 38⟩) (.cons (.var 3 "is_tested" ⟨261, 40, 261, 49⟩) (.cons (.var 1 "number" ⟨261, 51, 261, 57⟩) .nil))) 0 ⟨261, 31, 261, 58⟩) ⟨261, 12, 261, 30⟩ ⟨261, 12, 261, 59⟩) ⟨261, 12, 261, 59⟩)
  (.cons (.sfld (.var 0 "self" ⟨262, 12, 262, 16⟩) 23 "coming" ⟨262, 12, 262, 23⟩ (.tup (.cons (.ix (.fld (.fld (.var 0 "self" ⟨262, 27, 262, 31⟩) 14 "code" ⟨262, 27, 262, 36⟩) 7 "bodies" ⟨262, 27, 262, 43⟩) (.ix (.var 2 "tree" ⟨262, 44, 262, 48⟩) (.int 1 0 ⟨262, 49, 262, 50⟩) ⟨262, 44, 262, 51⟩) ⟨262, 27, 262, 52⟩) (.cons (.var 3 "is_tested" ⟨262, 54, 262, 63⟩) .nil)) 0 ⟨262, 26, 262, 64⟩) ⟨262, 12, 262, 64⟩)
  .nil)) (.cons (.ife (.cmp .Eq (.var 4 "word" ⟨263, 13, 263, 17⟩) (.str [115, 117, 98] 0 ⟨263, 21, 263, 26⟩) ⟨263, 13, 263, 26⟩) (.cons (.expr (.app (.fld (.var 0 "self" ⟨264, 12, 264, 16⟩) 15 "frames" ⟨264, 12, 264, 23⟩) (.tup (.cons (.str [115, 117, 98] 0 ⟨264, 32, 264, 37⟩) (.cons (.var 3 "is_tested" ⟨264, 39, 264, 48⟩) (.cons (.var 1 "number" ⟨264, 50, 264, 56⟩) .nil))) 0 ⟨264, 31, 264, 57⟩) ⟨264, 12, 264, 30⟩ ⟨264, 12, 264, 58⟩) ⟨264, 12, 264, 58⟩)
  (.cons (.expr (.meth 3 32 (.var 0 "self" ⟨265, 12, 265, 16⟩) "open_shell" ⟨265, 12, 265, 27⟩ (.cons (.ix (.var 5 "kids" ⟨265, 28, 265, 32⟩) (.int 0 0 ⟨265, 33, 265, 34⟩) ⟨265, 28, 265, 35⟩) (.cons (.var 3 "is_tested" ⟨265, 37, 265, 46⟩) .nil)) ⟨265, 12, 265, 47⟩) ⟨265, 12, 265, 47⟩)
  .nil)) (.cons (.expr (.meth 3 33 (.var 0 "self" ⟨267, 12, 267, 16⟩) "open_part" ⟨267, 12, 267, 26⟩ (.cons (.var 1 "number" ⟨267, 27, 267, 33⟩) (.cons (.int 0 0 ⟨267, 35, 267, 36⟩) (.cons (.var 3 "is_tested" ⟨267, 38, 267, 47⟩) (.cons (.fld (.var 0 "self" ⟨267, 49, 267, 53⟩) 17 "last" ⟨267, 49, 267, 58⟩) (.cons (.int 0 0 ⟨267, 60, 267, 61⟩) .nil))))) ⟨267, 12, 267, 62⟩) ⟨267, 12, 267, 62⟩)
  .nil) ⟨263, 8, 267, 62⟩)
  .nil) ⟨260, 8, 267, 62⟩)
  .nil) ⟨258, 8, 267, 62⟩)
  .nil) ⟨256, 8, 267, 62⟩)
  .nil) ⟨253, 8, 267, 62⟩)
  .nil) ⟨250, 8, 267, 62⟩)
  .nil) ⟨247, 8, 267, 62⟩)
  .nil))
def f_Player_open_tree : Fn := ⟨["self", "number", "tree", "is_tested"], ["self", "number", "tree", "is_tested", "word", "kids"], b_Player_open_tree⟩
def d_Player_open_tree : Df := ⟨("Player", some ("open_tree" : Str)), "open_tree", "Player.open_tree", inClass (top 39) 7, f_Player_open_tree⟩
def b_Player_ask_condition : Ss :=
  (.cons (.expr (.app (.fld (.var 0 "self" ⟨270, 8, 270, 12⟩) 15 "frames" ⟨270, 8, 270, 19⟩) (.tup (.cons (.str [99, 111, 110, 100, 105, 116, 105, 111, 110] 0 ⟨270, 28, 270, 39⟩) (.cons (.var 1 "number" ⟨270, 41, 270, 47⟩) (.cons (.var 2 "is_tested" ⟨270, 49, 270, 58⟩) (.cons (.var 3 "status" ⟨270, 60, 270, 66⟩) .nil)))) 0 ⟨270, 27, 270, 67⟩) ⟨270, 8, 270, 26⟩ ⟨270, 8, 270, 68⟩) ⟨270, 8, 270, 68⟩)
  (.cons (.sfld (.var 0 "self" ⟨271, 8, 271, 12⟩) 23 "coming" ⟨271, 8, 271, 19⟩ (.tup (.cons (.ix (.ix (.fld (.fld (.var 0 "self" ⟨271, 23, 271, 27⟩) 14 "code" ⟨271, 23, 271, 32⟩) 6 "kids" ⟨271, 23, 271, 37⟩) (.var 1 "number" ⟨271, 38, 271, 44⟩) ⟨271, 23, 271, 45⟩) (.int 0 0 ⟨271, 46, 271, 47⟩) ⟨271, 23, 271, 48⟩) (.cons (.bl true 0 ⟨271, 50, 271, 54⟩) .nil)) 0 ⟨271, 22, 271, 55⟩) ⟨271, 8, 271, 55⟩)
  .nil))
def f_Player_ask_condition : Fn := ⟨["self", "number", "is_tested", "status"], ["self", "number", "is_tested", "status"], b_Player_ask_condition⟩
def d_Player_ask_condition : Df := ⟨("Player", some ("ask_condition" : Str)), "ask_condition", "Player.ask_condition", inClass (top 39) 8, f_Player_ask_condition⟩
def b_Player_next_round : Ss :=
  (.cons (.ife (.cmp .Eq (.var 3 "left" ⟨274, 11, 274, 15⟩) (.int 0 0 ⟨274, 19, 274, 20⟩) ⟨274, 11, 274, 20⟩) (.cons (.sfld (.var 0 "self" ⟨275, 12, 275, 16⟩) 17 "last" ⟨275, 12, 275, 21⟩ (.var 4 "status" ⟨275, 24, 275, 30⟩) ⟨275, 12, 275, 30⟩)
  .nil) (.cons (.expr (.app (.fld (.var 0 "self" ⟨277, 12, 277, 16⟩) 15 "frames" ⟨277, 12, 277, 23⟩) (.tup (.cons (.str [116, 105, 109, 101, 115] 0 ⟨277, 32, 277, 39⟩) (.cons (.var 1 "number" ⟨277, 41, 277, 47⟩) (.cons (.var 2 "is_tested" ⟨277, 49, 277, 58⟩) (.cons (.bin false .Sub (.var 3 "left" ⟨277, 60, 277, 64⟩) (.int 1 0 ⟨277, 67, 277, 68⟩) ⟨277, 60, 277, 68⟩) .nil)))) 0 ⟨277, 31, 277, 69⟩) ⟨277, 12, 277, 30⟩ ⟨277, 12, 277, 70⟩) ⟨277, 12, 277, 70⟩)
  (.cons (.sfld (.var 0 "self" ⟨278, 12, 278, 16⟩) 23 "coming" ⟨278, 12, 278, 23⟩ (.tup (.cons (.ix (.ix (.fld (.fld (.var 0 "self" ⟨278, 27, 278, 31⟩) 14 "code" ⟨278, 27, 278, 36⟩) 6 "kids" ⟨278, 27, 278, 41⟩) (.var 1 "number" ⟨278, 42, 278, 48⟩) ⟨278, 27, 278, 49⟩) (.int 0 0 ⟨278, 50, 278, 51⟩) ⟨278, 27, 278, 52⟩) (.cons (.var 2 "is_tested" ⟨278, 54, 278, 63⟩) .nil)) 0 ⟨278, 26, 278, 64⟩) ⟨278, 12, 278, 64⟩)
  .nil)) ⟨274, 8, 278, 64⟩)
  .nil)
def f_Player_next_round : Fn := ⟨["self", "number", "is_tested", "left", "status"], ["self", "number", "is_tested", "left", "status"], b_Player_next_round⟩
def d_Player_next_round : Df := ⟨("Player", some ("next_round" : Str)), "next_round", "Player.next_round", inClass (top 39) 9, f_Player_next_round⟩
def b_Player_open_shell : Ss :=
  (.cons (.set 3 "outer" ⟨281, 8, 281, 13⟩ (.ix (.fld (.var 0 "self" ⟨281, 16, 281, 20⟩) 16 "shells" ⟨281, 16, 281, 27⟩) (.neg (.int 1 0 ⟨281, 29, 281, 30⟩) ⟨281, 28, 281, 30⟩) ⟨281, 16, 281, 31⟩) ⟨281, 8, 281, 31⟩)
  (.cons (.expr (.app (.fld (.var 0 "self" ⟨282, 8, 282, 12⟩) 16 "shells" ⟨282, 8, 282, 19⟩) (.make 2 19 "ShellData" ⟨282, 27, 282, 36⟩ (.cons (.blt .dict false ⟨282, 37, 282, 41⟩ (.fld (.var 3 "outer" ⟨282, 42, 282, 47⟩) 9 "variables" ⟨282, 42, 282, 57⟩) ⟨282, 37, 282, 58⟩) (.cons (.blt .dict false ⟨282, 60, 282, 64⟩ (.fld (.var 3 "outer" ⟨282, 65, 282, 70⟩) 10 "options" ⟨282, 65, 282, 78⟩) ⟨282, 60, 282, 79⟩) (.cons (.blt .len false ⟨282, 81, 282, 84⟩ (.fld (.var 0 "self" ⟨282, 85, 282, 89⟩) 15 "frames" ⟨282, 85, 282, 96⟩) ⟨282, 81, 282, 97⟩) .nil))) ⟨282, 27, 282, 98⟩) ⟨282, 8, 282, 26⟩ ⟨282, 8, 282, 99⟩) ⟨282, 8, 282, 99⟩)
  (.cons (.sfld (.var 0 "self" ⟨283, 8, 283, 12⟩) 23 "coming" ⟨283, 8, 283, 19⟩ (.tup (.cons (.var 1 "number" ⟨283, 23, 283, 29⟩) (.cons (.var 2 "is_tested" ⟨283, 31, 283, 40⟩) .nil)) 0 ⟨283, 22, 283, 41⟩) ⟨283, 8, 283, 41⟩)
  .nil)))
def f_Player_open_shell : Fn := ⟨["self", "number", "is_tested"], ["self", "number", "is_tested", "outer"], b_Player_open_shell⟩
def d_Player_open_shell : Df := ⟨("Player", some ("open_shell" : Str)), "open_shell", "Player.open_shell", inClass (top 39) 10, f_Player_open_shell⟩
def b_Player_open_part : Ss :=
  (.cons (.expr (.app (.fld (.var 0 "self" ⟨286, 8, 286, 12⟩) 15 "frames" ⟨286, 8, 286, 19⟩) (.tup (.cons (.str [112, 105, 112, 101] 0 ⟨286, 28, 286, 34⟩) (.cons (.var 1 "number" ⟨286, 36, 286, 42⟩) (.cons (.var 2 "part" ⟨286, 44, 286, 48⟩) (.cons (.var 3 "is_tested" ⟨286, 50, 286, 59⟩) (.cons (.var 4 "begin" ⟨286, 61, 286, 66⟩) (.cons (.var 5 "failure" ⟨286, 68, 286, 75⟩) .nil)))))) 0 ⟨286, 27, 286, 76⟩) ⟨286, 8, 286, 26⟩ ⟨286, 8, 286, 77⟩) ⟨286, 8, 286, 77⟩)
  (.cons (.sfld (.var 0 "self" ⟨287, 8, 287, 12⟩) 17 "last" ⟨287, 8, 287, 17⟩ (.var 4 "begin" ⟨287, 20, 287, 25⟩) ⟨287, 8, 287, 25⟩)
  (.cons (.expr (.meth 3 32 (.var 0 "self" ⟨288, 8, 288, 12⟩) "open_shell" ⟨288, 8, 288, 23⟩ (.cons (.ix (.ix (.fld (.fld (.var 0 "self" ⟨288, 24, 288, 28⟩) 14 "code" ⟨288, 24, 288, 33⟩) 6 "kids" ⟨288, 24, 288, 38⟩) (.var 1 "number" ⟨288, 39, 288, 45⟩) ⟨288, 24, 288, 46⟩) (.var 2 "part" ⟨288, 47, 288, 51⟩) ⟨288, 24, 288, 52⟩) (.cons (.var 3 "is_tested" ⟨288, 54, 288, 63⟩) .nil)) ⟨288, 8, 288, 64⟩) ⟨288, 8, 288, 64⟩)
  .nil)))
def f_Player_open_part : Fn := ⟨["self", "number", "part", "is_tested", "begin", "failure"], ["self", "number", "part", "is_tested", "begin", "failure"], b_Player_open_part⟩
def d_Player_open_part : Df := ⟨("Player", some ("open_part" : Str)), "open_part", "Player.open_part", inClass (top 39) 11, f_Player_open_part⟩
def b_Player_back : Ss :=
  (.cons (.ife (.cmp .Eq (.blt .len false ⟨291, 11, 291, 14⟩ (.fld (.var 0 "self" ⟨291, 15, 291, 19⟩) 15 "frames" ⟨291, 15, 291, 26⟩) ⟨291, 11, 291, 27⟩) (.fld (.ix (.fld (.var 0 "self" ⟨291, 31, 291, 35⟩) 16 "shells" ⟨291, 31, 291, 42⟩) (.neg (.int 1 0 ⟨291, 44, 291, 45⟩) ⟨291, 43, 291, 45⟩) ⟨291, 31, 291, 46⟩) 11 "base" ⟨291, 31, 291, 51⟩) ⟨291, 11, 291, 51⟩) (.cons (.expr (.meth 3 42 (.var 0 "self" ⟨292, 12, 292, 16⟩) "end_shell" ⟨292, 12, 292, 26⟩ (.cons (.fld (.var 0 "self" ⟨292, 27, 292, 31⟩) 17 "last" ⟨292, 27, 292, 36⟩) .nil) ⟨292, 12, 292, 37⟩) ⟨292, 12, 292, 37⟩)
  (.cons (.ret (.non 0 ⟨293, 19, 293, 23⟩) ⟨293, 12, 293, 23⟩)
  .nil)) .nil ⟨291, 8, 293, 23⟩)
  (.cons (.set 1 "frame" ⟨294, 8, 294, 13⟩ (.pop (.fld (.var 0 "self" ⟨294, 16, 294, 20⟩) 15 "frames" ⟨294, 16, 294, 27⟩) ⟨294, 16, 294, 31⟩ ⟨294, 16, 294, 33⟩) ⟨294, 8, 294, 33⟩)
  (.cons (.set 2 "word" ⟨295, 8, 295, 12⟩ (.ix (.var 1 "frame" ⟨295, 15, 295, 20⟩) (.int 0 0 ⟨295, 21, 295, 22⟩) ⟨295, 15, 295, 23⟩) ⟨295, 8, 295, 23⟩)
  (.cons (.ife (.cmp .In (.var 2 "word" ⟨296, 11, 296, 15⟩) (.tup (.cons (.str [115, 101, 113] 0 ⟨296, 20, 296, 25⟩) (.cons (.str [97, 110, 100] 0 ⟨296, 27, 296, 32⟩) (.cons (.str [111, 114] 0 ⟨296, 34, 296, 38⟩) (.cons (.str [105, 102] 0 ⟨296, 40, 296, 44⟩) .nil)))) 0 ⟨296, 19, 296, 45⟩) ⟨296, 11, 296, 45⟩) (.cons (.expr (.meth 3 35 (.var 0 "self" ⟨297, 12, 297, 16⟩) "back_to_plain" ⟨297, 12, 297, 30⟩ (.cons (.var 1 "frame" ⟨297, 31, 297, 36⟩) .nil) ⟨297, 12, 297, 37⟩) ⟨297, 12, 297, 37⟩)
  .nil) (.cons (.ife (.cmp .Eq (.var 2 "word" ⟨298, 13, 298, 17⟩) (.str [110, 111, 116] 0 ⟨298, 21, 298, 26⟩) ⟨298, 13, 298, 26⟩) (.cons (.sfld (.var 0 "self" ⟨299, 12, 299, 16⟩) 17 "last" ⟨299, 12, 299, 21⟩ (.blt .int false ⟨299, 24, 299, 27⟩ (.cmp .Eq (.fld (.var 0 "self" ⟨299, 28, 299, 32⟩) 17 "last" ⟨299, 28, 299, 37⟩) (.int 0 0 ⟨299, 41, 299, 42⟩) ⟨299, 28, 299, 42⟩) ⟨299, 24, 299, 43⟩) ⟨299, 12, 299, 43⟩)
  .nil) (.cons (.ife (.inG false (.var 2 "word" ⟨300, 13, 300, 17⟩) g_LOOP_FRAMES "LOOP_FRAMES" ⟨300, 21, 300, 32⟩ ⟨300, 13, 300, 32⟩) (.cons (.expr (.meth 3 36 (.var 0 "self" ⟨301, 12, 301, 16⟩) "back_to_loop" ⟨301, 12, 301, 29⟩ (.cons (.var 1 "frame" ⟨301, 30, 301, 35⟩) .nil) ⟨301, 12, 301, 36⟩) ⟨301, 12, 301, 36⟩)
  .nil) (.cons (.ife (.cmp .Eq (.var 2 "word" ⟨302, 13, 302, 17⟩) (.str [99, 97, 108, 108] 0 ⟨302, 21, 302, 27⟩) ⟨302, 13, 302, 27⟩) (.cons (.expr (.meth 3 40 (.var 0 "self" ⟨303, 12, 303, 16⟩) "check" ⟨303, 12, 303, 22⟩ (.cons (.ix (.var 1 "frame" ⟨303, 23, 303, 28⟩) (.int 1 0 ⟨303, 29, 303, 30⟩) ⟨303, 23, 303, 31⟩) (.cons (.ix (.var 1 "frame" ⟨303, 33, 303, 38⟩) (.int 2 0 ⟨303, 39, 303, 40⟩) ⟨303, 33, 303, 41⟩) .nil)) ⟨303, 12, 303, 42⟩) ⟨303, 12, 303, 42⟩)
  .nil) (.cons (.ife (.cmp .Eq (.var 2 "word" ⟨304, 13, 304, 17⟩) (.str [102, 97, 105, 108] 0 ⟨304, 21, 304, 27⟩) ⟨304, 13, 304, 27⟩) (.cons (.sfld (.var 0 "self" ⟨305, 12, 305, 16⟩) 17 "last" ⟨305, 12, 305, 21⟩ (.ix (.var 1 "frame" ⟨305, 24, 305, 29⟩) (.int 1 0 ⟨305, 30, 305, 31⟩) ⟨305, 24, 305, 32⟩) ⟨305, 12, 305, 32⟩)
  (.cons (.expr (.meth 3 41 (.var 0 "self" ⟨306, 12, 306, 16⟩) "check_option" ⟨306, 12, 306, 29⟩ .nil ⟨306, 12, 306, 31⟩) ⟨306, 12, 306, 31⟩)
  .nil)) (.cons (.expr (.meth 3 43 (.var 0 "self" ⟨308, 12, 308, 16⟩) "finish_shell" ⟨308, 12, 308, 29⟩ (.cons (.ix (.var 1 "frame" ⟨308, 30, 308, 35⟩) (.int 1 0 ⟨308, 36, 308, 37⟩) ⟨308, 30, 308, 38⟩) .nil) ⟨308, 12, 308, 39⟩) ⟨308, 12, 308, 39⟩)
  .nil) ⟨304, 8, 308, 39⟩)
  .nil) ⟨302, 8, 308, 39⟩)
  .nil) ⟨300, 8, 308, 39⟩)
  .nil) ⟨298, 8, 308, 39⟩)
  .nil) ⟨296, 8, 308, 39⟩)
  (.cons (.ret (.non 0 ⟨309, 15, 309, 19⟩) ⟨309, 8, 309, 19⟩)
  .nil)))))
def f_Player_back : Fn := ⟨["self"], ["self", "frame", "word"], b_Player_back⟩
def d_Player_back : Df := ⟨("Player", some ("back" : Str)), "back", "Player.back", inClass (top 39) 12, f_Player_back⟩
def b_Player_back_to_plain : Ss :=
  (.cons (.unp (.cons (.nm 2 "word" ⟨312, 8, 312, 12⟩) (.cons (.nm 3 "number" ⟨312, 14, 312, 20⟩) .nil)) 0 ⟨312, 8, 312, 20⟩ (.sl false (.var 1 "frame" ⟨312, 23, 312, 28⟩) .nil (.cons (.int 2 0 ⟨312, 30, 312, 31⟩) .nil) ⟨312, 29, 312, 31⟩ ⟨312, 23, 312, 32⟩) ⟨312, 8, 312, 32⟩)
  (.cons (.set 4 "kids" ⟨313, 8, 313, 12⟩ (.ix (.fld (.fld (.var 0 "self" ⟨313, 15, 313, 19⟩) 14 "code" ⟨313, 15, 313, 24⟩) 6 "kids" ⟨313, 15, 313, 29⟩) (.var 3 "number" ⟨313, 30, 313, 36⟩) ⟨313, 15, 313, 37⟩) ⟨313, 8, 313, 37⟩)
  (.cons (.ife (.bop .And (.cons (.cmp .Eq (.var 2 "word" ⟨314, 11, 314, 15⟩) (.str [115, 101, 113] 0 ⟨314, 19, 314, 24⟩) ⟨314, 11, 314, 24⟩) (.cons (.cmp .Lt (.bin false .Add (.ix (.var 1 "frame" ⟨314, 29, 314, 34⟩) (.int 2 0 ⟨314, 35, 314, 36⟩) ⟨314, 29, 314, 37⟩) (.int 1 0 ⟨314, 40, 314, 41⟩) ⟨314, 29, 314, 41⟩) (.blt .len false ⟨314, 44, 314, 47⟩ (.var 4 "kids" ⟨314, 48, 314, 52⟩) ⟨314, 44, 314, 53⟩) ⟨314, 29, 314, 53⟩) .nil)) ⟨314, 11, 314, 53⟩) (.cons (.expr (.app (.fld (.var 0 "self" ⟨315, 12, 315, 16⟩) 15 "frames" ⟨315, 12, 315, 23⟩) (.tup (.cons (.str [115, 101, 113] 0 ⟨315, 32, 315, 37⟩) (.cons (.var 3 "number" ⟨315, 39, 315, 45⟩) (.cons (.bin false .Add (.ix (.var 1 "frame" ⟨315, 47, 315, 52⟩) (.int 2 0 ⟨315, 53, 315, 54⟩) ⟨315, 47, 315, 55⟩) (.int 1 0 ⟨315, 58, 315, 59⟩) ⟨315, 47, 315, 59⟩) (.cons (.ix (.var 1 "frame" ⟨315, 61, 315, 66⟩) (.int 3 0 ⟨315, 67, 315, 68⟩) ⟨315, 61, 315, 69⟩) .nil)))) 0 ⟨315, 31, 315, 70⟩) ⟨315, 12, 315, 30⟩ ⟨315, 12, 315, 71⟩) ⟨315, 12, 315, 71⟩)
  (.cons (.sfld (.var 0 "self" ⟨316, 12, 316, 16⟩) 23 "coming" ⟨316, 12, 316, 23⟩ (.tup (.cons (.ix (.var 4 "kids" ⟨316, 27, 316, 31⟩) (.bin false .Add (.ix (.var 1 "frame" ⟨316, 32, 316, 37⟩) (.int 2 0 ⟨316, 38, 316, 39⟩) ⟨316, 32, 316, 40⟩) (.int 1 0 ⟨316, 43, 316, 44⟩) ⟨316, 32, 316, 44⟩) ⟨316, 27, 316, 45⟩) (.cons (.ix (.var 1 "frame" ⟨316, 47, 316, 52⟩) (.int 3 0 ⟨316, 53, 316, 54⟩) ⟨316, 47, 316, 55⟩) .nil)) 0 ⟨316, 26, 316, 56⟩) ⟨316, 12, 316, 56⟩)
  .nil)) (.cons (.ife (.bop .And (.cons (.cmp .In (.var 2 "word" ⟨317, 13, 317, 17⟩) (.tup (.cons (.str [97, 110, 100] 0 ⟨317, 22, 317, 27⟩) (.cons (.str [111, 114] 0 ⟨317, 29, 317, 33⟩) .nil)) 0 ⟨317, 21, 317, 34⟩) ⟨317, 13, 317, 34⟩) (.cons (.cmp .Eq (.cmp .Eq (.fld (.var 0 "self" ⟨317, 40, 317, 44⟩) 17 "last" ⟨317, 40, 317, 49⟩) (.int 0 0 ⟨317, 53, 317, 54⟩) ⟨317, 40, 317, 54⟩) (.cmp .Eq (.var 2 "word" ⟨317, 60, 317, 64⟩) (.str [97, 110, 100] 0 ⟨317, 68, 317, 73⟩) ⟨317, 60, 317, 73⟩) ⟨317, 39, 317, 74⟩) .nil)) ⟨317, 13, 317, 74⟩) (.cons (.sfld (.var 0 "self" ⟨318, 12, 318, 16⟩) 23 "coming" ⟨318, 12, 318, 23⟩ (.tup (.cons (.ix (.var 4 "kids" ⟨318, 27, 318, 31⟩) (.int 1 0 ⟨318, 32, 318, 33⟩) ⟨318, 27, 318, 34⟩) (.cons (.ix (.var 1 "frame" ⟨318, 36, 318, 41⟩) (.int 2 0 ⟨318, 42, 318, 43⟩) ⟨318, 36, 318, 44⟩) .nil)) 0 ⟨318, 26, 318, 45⟩) ⟨318, 12, 318, 45⟩)
  .nil) (.cons (.ife (.bop .And (.cons (.cmp .Eq (.var 2 "word" ⟨319, 13, 319, 17⟩) (.str [105, 102] 0 ⟨319, 21, 319, 25⟩) ⟨319, 13, 319, 25⟩) (.cons (.cmp .Eq (.fld (.var 0 "self" ⟨319, 30, 319, 34⟩) 17 "last" ⟨319, 30, 319, 39⟩) (.int 0 0 ⟨319, 43, 319, 44⟩) ⟨319, 30, 319, 44⟩) .nil)) ⟨319, 13, 319, 44⟩) (.cons (.sfld (.var 0 "self" ⟨320, 12, 320, 16⟩) 23 "coming" ⟨320, 12, 320, 23⟩ (.tup (.cons (.ix (.var 4 "kids" ⟨320, 27, 320, 31⟩) (.int 1 0 ⟨320, 32, 320, 33⟩) ⟨320, 27, 320, 34⟩) (.cons (.ix (.var 1 "frame" ⟨320, 36, 320, 41⟩) (.int 2 0 ⟨320, 42, 320, 43⟩) ⟨320, 36, 320, 44⟩) .nil)) 0 ⟨320, 26, 320, 45⟩) ⟨320, 12, 320, 45⟩)
  .nil) (.cons (.ife (.bop .And (.cons (.cmp .Eq (.var 2 "word" ⟨321, 13, 321, 17⟩) (.str [105, 102] 0 ⟨321, 21, 321, 25⟩) ⟨321, 13, 321, 25⟩) (.cons (.cmp .Eq (.blt .len false ⟨321, 30, 321, 33⟩ (.var 4 "kids" ⟨321, 34, 321, 38⟩) ⟨321, 30, 321, 39⟩) (.int 3 0 ⟨321, 43, 321, 44⟩) ⟨321, 30, 321, 44⟩) .nil)) ⟨321, 13, 321, 44⟩) (.cons (.sfld (.var 0 "self" ⟨322, 12, 322, 16⟩) 23 "coming" ⟨322, 12, 322, 23⟩ (.tup (.cons (.ix (.var 4 "kids" ⟨322, 27, 322, 31⟩) (.int 2 0 ⟨322, 32, 322, 33⟩) ⟨322, 27, 322, 34⟩) (.cons (.ix (.var 1 "frame" ⟨322, 36, 322, 41⟩) (.int 2 0 ⟨322, 42, 322, 43⟩) ⟨322, 36, 322, 44⟩) .nil)) 0 ⟨322, 26, 322, 45⟩) ⟨322, 12, 322, 45⟩)
  .nil) (.cons (.ife (.cmp .Eq (.var 2 "word" ⟨323, 13, 323, 17⟩) (.str [105, 102] 0 ⟨323, 21, 323, 25⟩) ⟨323, 13, 323, 25⟩) (.cons (.sfld (.var 0 "self" ⟨324, 12, 324, 16⟩) 17 "last" ⟨324, 12, 324, 21⟩ (.int 0 0 ⟨324, 24, 324, 25⟩) ⟨324, 12, 324, 25⟩)
  .nil) .nil ⟨323, 8, 324, 25⟩)
  .nil) ⟨321, 8, 324, 25⟩)
  .nil) ⟨319, 8, 324, 25⟩)
  .nil) ⟨317, 8, 324, 25⟩)
  .nil) ⟨314, 8, 324, 25⟩)
  .nil)))
def f_Player_back_to_plain : Fn := ⟨["self", "frame"], ["self", "frame", "word", "number", "kids"], b_Player_back_to_plain⟩
def d_Player_back_to_plain : Df := ⟨("Player", some ("back_to_plain" : Str)), "back_to_plain", "Player.back_to_plain", inClass (top 39) 13, f_Player_back_to_plain⟩
def b_Player_back_to_loop : Ss :=
  (.cons (.unp (.cons (.nm 2 "word" ⟨327, 8, 327, 12⟩) (.cons (.nm 3 "number" ⟨327, 14, 327, 20⟩) (.cons (.nm 4 "is_tested" ⟨327, 22, 327, 31⟩) .nil))) 0 ⟨327, 8, 327, 31⟩ (.sl false (.var 1 "frame" ⟨327, 34, 327, 39⟩) .nil (.cons (.int 3 0 ⟨327, 41, 327, 42⟩) .nil) ⟨327, 40, 327, 42⟩ ⟨327, 34, 327, 43⟩) ⟨327, 8, 327, 43⟩)
  (.cons (.ife (.cmp .Eq (.var 2 "word" ⟨328, 11, 328, 15⟩) (.str [116, 105, 109, 101, 115] 0 ⟨328, 19, 328, 26⟩) ⟨328, 11, 328, 26⟩) (.cons (.expr (.meth 3 31 (.var 0 "self" ⟨329, 12, 329, 16⟩) "next_round" ⟨329, 12, 329, 27⟩ (.cons (.var 3 "number" ⟨329, 28, 329, 34⟩) (.cons (.var 4 "is_tested" ⟨329, 36, 329, 45⟩) (.cons (.ix (.var 1 "frame" ⟨329, 47, 329, 52⟩) (.int 3 0 ⟨329, 53, 329, 54⟩) ⟨329, 47, 329, 55⟩) (.cons (.fld (.var 0 "self" ⟨329, 57, 329, 61⟩) 17 "last" ⟨329, 57, 329, 66⟩) .nil)))) ⟨329, 12, 329, 67⟩) ⟨329, 12, 329, 67⟩)
  .nil) (.cons (.ife (.cmp .Eq (.var 2 "word" ⟨330, 13, 330, 17⟩) (.str [98, 111, 100, 121] 0 ⟨330, 21, 330, 27⟩) ⟨330, 13, 330, 27⟩) (.cons (.expr (.meth 3 30 (.var 0 "self" ⟨331, 12, 331, 16⟩) "ask_condition" ⟨331, 12, 331, 30⟩ (.cons (.var 3 "number" ⟨331, 31, 331, 37⟩) (.cons (.var 4 "is_tested" ⟨331, 39, 331, 48⟩) (.cons (.fld (.var 0 "self" ⟨331, 50, 331, 54⟩) 17 "last" ⟨331, 50, 331, 59⟩) .nil))) ⟨331, 12, 331, 60⟩) ⟨331, 12, 331, 60⟩)
  .nil) (.cons (.ife (.cmp .Eq (.cmp .Eq (.fld (.var 0 "self" ⟨332, 14, 332, 18⟩) 17 "last" ⟨332, 14, 332, 23⟩) (.int 0 0 ⟨332, 27, 332, 28⟩) ⟨332, 14, 332, 28⟩) (.cmp .Eq (.ix (.ix (.fld (.fld (.var 0 "self" ⟨332, 34, 332, 38⟩) 14 "code" ⟨332, 34, 332, 43⟩) 5 "trees" ⟨332, 34, 332, 49⟩) (.var 3 "number" ⟨332, 50, 332, 56⟩) ⟨332, 34, 332, 57⟩) (.int 0 0 ⟨332, 58, 332, 59⟩) ⟨332, 34, 332, 60⟩) (.str [119, 104, 105, 108, 101] 0 ⟨332, 64, 332, 71⟩) ⟨332, 34, 332, 71⟩) ⟨332, 13, 332, 72⟩) (.cons (.expr (.app (.fld (.var 0 "self" ⟨333, 12, 333, 16⟩) 15 "frames" ⟨333, 12, 333, 23⟩) (.tup (.cons (.str [98, 111, 100, 121] 0 ⟨333, 32, 333, 38⟩) (.cons (.var 3 "number" ⟨333, 40, 333, 46⟩) (.cons (.var 4 "is_tested" ⟨333, 48, 333, 57⟩) .nil))) 0 ⟨333, 31, 333, 58⟩) ⟨333, 12, 333, 30⟩ ⟨333, 12, 333, 59⟩) ⟨333, 12, 333, 59⟩)
  (.cons (.sfld (.var 0 "self" ⟨334, 12, 334, 16⟩) 23 "coming" ⟨334, 12, 334, 23⟩ (.tup (.cons (.ix (.ix (.fld (.fld (.var 0 "self" ⟨334, 27, 334, 31⟩) 14 "code" ⟨334, 27, 334, 36⟩) 6 "kids" ⟨334, 27, 334, 41⟩) (.var 3 "number" ⟨334, 42, 334, 48⟩) ⟨334, 27, 334, 49⟩) (.int 1 0 ⟨334, 50, 334, 51⟩) ⟨334, 27, 334, 52⟩) (.cons (.var 4 "is_tested" ⟨334, 54, 334, 63⟩) .nil)) 0 ⟨334, 26, 334, 64⟩) ⟨334, 12, 334, 64⟩)
  .nil)) (.cons (.sfld (.var 0 "self" ⟨336, 12, 336, 16⟩) 17 "last" ⟨336, 12, 336, 21⟩ (.ix (.var 1 "frame" ⟨336, 24, 336, 29⟩) (.int 3 0 ⟨336, 30, 336, 31⟩) ⟨336, 24, 336, 32⟩) ⟨336, 12, 336, 32⟩)
  .nil) ⟨332, 8, 336, 32⟩)
  .nil) ⟨330, 8, 336, 32⟩)
  .nil) ⟨328, 8, 336, 32⟩)
  .nil))
def f_Player_back_to_loop : Fn := ⟨["self", "frame"], ["self", "frame", "word", "number", "is_tested"], b_Player_back_to_loop⟩
def d_Player_back_to_loop : Df := ⟨("Player", some ("back_to_loop" : Str)), "back_to_loop", "Player.back_to_loop", inClass (top 39) 14, f_Player_back_to_loop⟩
def b1_Player_leave_loops : Ss :=
  (.cons (.set 3 "frame" ⟨341, 12, 341, 17⟩ (.pop (.fld (.var 0 "self" ⟨341, 20, 341, 24⟩) 15 "frames" ⟨341, 20, 341, 31⟩) ⟨341, 20, 341, 35⟩ ⟨341, 20, 341, 37⟩) ⟨341, 12, 341, 37⟩)
  (.cons (.aug 2 "many" ⟨342, 12, 342, 16⟩ true (.blt .int false ⟨342, 20, 342, 23⟩ (.inG false (.ix (.var 3 "frame" ⟨342, 24, 342, 29⟩) (.int 0 0 ⟨342, 30, 342, 31⟩) ⟨342, 24, 342, 32⟩) g_LOOP_FRAMES "LOOP_FRAMES" ⟨342, 36, 342, 47⟩ ⟨342, 24, 342, 47⟩) ⟨342, 20, 342, 48⟩) ⟨342, 12, 342, 48⟩)
  .nil))
def l2_Player_leave_loops : S :=
  .whl (.cmp .Gt (.var 2 "many" ⟨340, 14, 340, 18⟩) (.int 0 0 ⟨340, 21, 340, 22⟩) ⟨340, 14, 340, 22⟩) b1_Player_leave_loops ⟨340, 8, 342, 48⟩
def b_Player_leave_loops : Ss :=
  (.cons (.set 3 "frame" ⟨339, 8, 339, 13⟩ (.non 0 ⟨339, 16, 339, 20⟩) ⟨339, 8, 339, 20⟩)
  (.cons l2_Player_leave_loops
  (.cons (.sfld (.var 0 "self" ⟨343, 8, 343, 12⟩) 17 "last" ⟨343, 8, 343, 17⟩ (.int 0 0 ⟨343, 20, 343, 21⟩) ⟨343, 8, 343, 21⟩)
  (.cons (.ife (.bop .And (.cons (.cmp .Eq (.var 1 "word" ⟨344, 11, 344, 15⟩) (.str [110, 101, 120, 116] 0 ⟨344, 19, 344, 25⟩) ⟨344, 11, 344, 25⟩) (.cons (.cmp .Eq (.ix (.var 3 "frame" ⟨344, 30, 344, 35⟩) (.int 0 0 ⟨344, 36, 344, 37⟩) ⟨344, 30, 344, 38⟩) (.str [116, 105, 109, 101, 115] 0 ⟨344, 42, 344, 49⟩) ⟨344, 30, 344, 49⟩) .nil)) ⟨344, 11, 344, 49⟩) (.cons (.expr (.meth 3 31 (.var 0 "self" ⟨345, 12, 345, 16⟩) "next_round" ⟨345, 12, 345, 27⟩ (.cons (.ix (.var 3 "frame" ⟨345, 28, 345, 33⟩) (.int 1 0 ⟨345, 34, 345, 35⟩) ⟨345, 28, 345, 36⟩) (.cons (.ix (.var 3 "frame" ⟨345, 38, 345, 43⟩) (.int 2 0 ⟨345, 44, 345, 45⟩) ⟨345, 38, 345, 46⟩) (.cons (.ix (.var 3 "frame" ⟨345, 48, 345, 53⟩) (.int 3 0 ⟨345, 54, 345, 55⟩) ⟨345, 48, 345, 56⟩) (.cons (.int 0 0 ⟨345, 58, 345, 59⟩) .nil)))) ⟨345, 12, 345, 60⟩) ⟨345, 12, 345, 60⟩)
  .nil) (.cons (.ife (.cmp .Eq (.var 1 "word" ⟨346, 13, 346, 17⟩) (.str [110, 101, 120, 116] 0 ⟨346, 21, 346, 27⟩) ⟨346, 13, 346, 27⟩) (.cons (.expr (.meth 3 30 (.var 0 "self" ⟨347, 12, 347, 16⟩) "ask_condition" ⟨347, 12, 347, 30⟩ (.cons (.ix (.var 3 "frame" ⟨347, 31, 347, 36⟩) (.int 1 0 ⟨347, 37, 347, 38⟩) ⟨347, 31, 347, 39⟩) (.cons (.ix (.var 3 "frame" ⟨347, 41, 347, 46⟩) (.int 2 0 ⟨347, 47, 347, 48⟩) ⟨347, 41, 347, 49⟩) (.cons (.int 0 0 ⟨347, 51, 347, 52⟩) .nil))) ⟨347, 12, 347, 53⟩) ⟨347, 12, 347, 53⟩)
  .nil) .nil ⟨346, 8, 347, 53⟩)
  .nil) ⟨344, 8, 347, 53⟩)
  .nil))))
def f_Player_leave_loops : Fn := ⟨["self", "word", "many"], ["self", "word", "many", "frame"], b_Player_leave_loops⟩
def d_Player_leave_loops : Df := ⟨("Player", some ("leave_loops" : Str)), "leave_loops", "Player.leave_loops", inClass (top 39) 15, f_Player_leave_loops⟩
def b1_Player_leave_call : Ss :=
  (.cons (.set 2 "frame" ⟨352, 12, 352, 17⟩ (.pop (.fld (.var 0 "self" ⟨352, 20, 352, 24⟩) 15 "frames" ⟨352, 20, 352, 31⟩) ⟨352, 20, 352, 35⟩ ⟨352, 20, 352, 37⟩) ⟨352, 12, 352, 37⟩)
  .nil)
def l2_Player_leave_call : S :=
  .whl (.cmp .NotEq (.ix (.var 2 "frame" ⟨351, 14, 351, 19⟩) (.int 0 0 ⟨351, 20, 351, 21⟩) ⟨351, 14, 351, 22⟩) (.str [99, 97, 108, 108] 0 ⟨351, 26, 351, 32⟩) ⟨351, 14, 351, 32⟩) b1_Player_leave_call ⟨351, 8, 352, 37⟩
def b_Player_leave_call : Ss :=
  (.cons (.set 2 "frame" ⟨350, 8, 350, 13⟩ (.pop (.fld (.var 0 "self" ⟨350, 16, 350, 20⟩) 15 "frames" ⟨350, 16, 350, 27⟩) ⟨350, 16, 350, 31⟩ ⟨350, 16, 350, 33⟩) ⟨350, 8, 350, 33⟩)
  (.cons l2_Player_leave_call
  (.cons (.ife (.isN true (.var 1 "status" ⟨353, 11, 353, 17⟩) 0 ⟨353, 25, 353, 29⟩ ⟨353, 11, 353, 29⟩) (.cons (.sfld (.var 0 "self" ⟨354, 12, 354, 16⟩) 17 "last" ⟨354, 12, 354, 21⟩ (.var 1 "status" ⟨354, 24, 354, 30⟩) ⟨354, 12, 354, 30⟩)
  .nil) .nil ⟨353, 8, 354, 30⟩)
  (.cons (.expr (.meth 3 40 (.var 0 "self" ⟨355, 8, 355, 12⟩) "check" ⟨355, 8, 355, 18⟩ (.cons (.ix (.var 2 "frame" ⟨355, 19, 355, 24⟩) (.int 1 0 ⟨355, 25, 355, 26⟩) ⟨355, 19, 355, 27⟩) (.cons (.ix (.var 2 "frame" ⟨355, 29, 355, 34⟩) (.int 2 0 ⟨355, 35, 355, 36⟩) ⟨355, 29, 355, 37⟩) .nil)) ⟨355, 8, 355, 38⟩) ⟨355, 8, 355, 38⟩)
  .nil))))
def f_Player_leave_call : Fn := ⟨["self", "status"], ["self", "status", "frame"], b_Player_leave_call⟩
def d_Player_leave_call : Df := ⟨("Player", some ("leave_call" : Str)), "leave_call", "Player.leave_call", inClass (top 39) 16, f_Player_leave_call⟩
def b1_Player_exit_status : Ss :=
  (.cons (.ife (.cmp .In (.ix (.var 2 "frame" ⟨360, 15, 360, 20⟩) (.int 0 0 ⟨360, 21, 360, 22⟩) ⟨360, 15, 360, 23⟩) (.tup (.cons (.str [102, 97, 105, 108] 0 ⟨360, 28, 360, 34⟩) (.cons (.str [101, 110, 100] 0 ⟨360, 36, 360, 41⟩) .nil)) 0 ⟨360, 27, 360, 42⟩) ⟨360, 15, 360, 42⟩) (.cons (.set 1 "found" ⟨361, 16, 361, 21⟩ (.ix (.var 2 "frame" ⟨361, 24, 361, 29⟩) (.int 1 0 ⟨361, 30, 361, 31⟩) ⟨361, 24, 361, 32⟩) ⟨361, 16, 361, 32⟩)
  .nil) .nil ⟨360, 12, 361, 32⟩)
  .nil)
def l2_Player_exit_status : S :=
  .for_ (.nm 2 "frame" ⟨359, 12, 359, 17⟩) (.seq (.sl false (.fld (.var 0 "self" ⟨359, 21, 359, 25⟩) 15 "frames" ⟨359, 21, 359, 32⟩) (.cons (.fld (.ix (.fld (.var 0 "self" ⟨359, 33, 359, 37⟩) 16 "shells" ⟨359, 33, 359, 44⟩) (.neg (.int 1 0 ⟨359, 46, 359, 47⟩) ⟨359, 45, 359, 47⟩) ⟨359, 33, 359, 48⟩) 11 "base" ⟨359, 33, 359, 53⟩) .nil) .nil ⟨359, 33, 359, 54⟩ ⟨359, 21, 359, 55⟩)) b1_Player_exit_status ⟨359, 8, 361, 32⟩
def b_Player_exit_status : Ss :=
  (.cons (.set 1 "found" ⟨358, 8, 358, 13⟩ (.fld (.var 0 "self" ⟨358, 16, 358, 20⟩) 17 "last" ⟨358, 16, 358, 25⟩) ⟨358, 8, 358, 25⟩)
  (.cons l2_Player_exit_status
  (.cons (.ret (.var 1 "found" ⟨362, 15, 362, 20⟩) ⟨362, 8, 362, 20⟩)
  .nil)))
def f_Player_exit_status : Fn := ⟨["self"], ["self", "found", "frame"], b_Player_exit_status⟩
def d_Player_exit_status : Df := ⟨("Player", some ("exit_status" : Str)), "exit_status", "Player.exit_status", inClass (top 39) 17, f_Player_exit_status⟩
def e1_Player_check : E :=
  .comp false (.cmp .Eq (.ix (.var 5 "frame" ⟨369, 32, 369, 37⟩) (.int 0 0 ⟨369, 38, 369, 39⟩) ⟨369, 32, 369, 40⟩) (.str [99, 97, 108, 108] 0 ⟨369, 44, 369, 50⟩) ⟨369, 32, 369, 50⟩) (.nm 5 "frame" ⟨369, 55, 369, 60⟩) (.seq (.sl false (.fld (.var 0 "self" ⟨369, 64, 369, 68⟩) 15 "frames" ⟨369, 64, 369, 75⟩) (.cons (.fld (.var 3 "shell" ⟨369, 76, 369, 81⟩) 11 "base" ⟨369, 76, 369, 86⟩) .nil) .nil ⟨369, 76, 369, 87⟩ ⟨369, 64, 369, 88⟩)) .nil { kind := PySem.ScopeKind.function, names := [(PySem.Str.ofString ".0", PySem.NameKind.local), (PySem.Str.ofString "frame", PySem.NameKind.local)], isGenerator := false, isCoroutine := false, more := [] : PySem.Scope } [("frame", 5)] ⟨369, 31, 369, 89⟩
def b_Player_check : Ss :=
  (.cons (.ife (.bop .Or (.cons (.var 1 "is_tested" ⟨365, 11, 365, 20⟩) (.cons (.cmp .Eq (.fld (.var 0 "self" ⟨365, 24, 365, 28⟩) 17 "last" ⟨365, 24, 365, 33⟩) (.int 0 0 ⟨365, 37, 365, 38⟩) ⟨365, 24, 365, 38⟩) .nil)) ⟨365, 11, 365, 38⟩) (.cons (.ret (.non 0 ⟨366, 19, 366, 23⟩) ⟨366, 12, 366, 23⟩)
  .nil) .nil ⟨365, 8, 366, 23⟩)
  (.cons (.set 3 "shell" ⟨367, 8, 367, 13⟩ (.ix (.fld (.var 0 "self" ⟨367, 16, 367, 20⟩) 16 "shells" ⟨367, 16, 367, 27⟩) (.neg (.int 1 0 ⟨367, 29, 367, 30⟩) ⟨367, 28, 367, 30⟩) ⟨367, 16, 367, 31⟩) ⟨367, 8, 367, 31⟩)
  (.cons (.set 4 "trap" ⟨368, 8, 368, 12⟩ (.ix (.fld (.var 3 "shell" ⟨368, 15, 368, 20⟩) 12 "traps" ⟨368, 15, 368, 26⟩) (.str [102, 97, 105, 108] 0 ⟨368, 27, 368, 33⟩) ⟨368, 15, 368, 34⟩) ⟨368, 8, 368, 34⟩)
  (.cons (.ife (.bop .Or (.cons (.isN false (.var 4 "trap" ⟨369, 11, 369, 15⟩) 0 ⟨369, 19, 369, 23⟩ ⟨369, 11, 369, 23⟩) (.cons (.blt .any false ⟨369, 27, 369, 30⟩ e1_Player_check ⟨369, 27, 369, 90⟩) .nil)) ⟨369, 11, 369, 90⟩) (.cons (.expr (.meth 3 41 (.var 0 "self" ⟨370, 12, 370, 16⟩) "check_option" ⟨370, 12, 370, 29⟩ .nil ⟨370, 12, 370, 31⟩) ⟨370, 12, 370, 31⟩)
  .nil) (.cons (.expr (.app (.fld (.var 0 "self" ⟨372, 12, 372, 16⟩) 15 "frames" ⟨372, 12, 372, 23⟩) (.tup (.cons (.str [102, 97, 105, 108] 0 ⟨372, 32, 372, 38⟩) (.cons (.fld (.var 0 "self" ⟨372, 40, 372, 44⟩) 17 "last" ⟨372, 40, 372, 49⟩) (.cons (.var 2 "number" ⟨372, 51, 372, 57⟩) .nil))) 0 ⟨372, 31, 372, 58⟩) ⟨372, 12, 372, 30⟩ ⟨372, 12, 372, 59⟩) ⟨372, 12, 372, 59⟩)
  (.cons (.sfld (.var 0 "self" ⟨373, 12, 373, 16⟩) 23 "coming" ⟨373, 12, 373, 23⟩ (.tup (.cons (.ix (.ix (.fld (.fld (.var 0 "self" ⟨373, 27, 373, 31⟩) 14 "code" ⟨373, 27, 373, 36⟩) 6 "kids" ⟨373, 27, 373, 41⟩) (.var 4 "trap" ⟨373, 42, 373, 46⟩) ⟨373, 27, 373, 47⟩) (.int 0 0 ⟨373, 48, 373, 49⟩) ⟨373, 27, 373, 50⟩) (.cons (.bl true 0 ⟨373, 52, 373, 56⟩) .nil)) 0 ⟨373, 26, 373, 57⟩) ⟨373, 12, 373, 57⟩)
  .nil)) ⟨369, 8, 373, 57⟩)
  (.cons (.ret (.non 0 ⟨374, 15, 374, 19⟩) ⟨374, 8, 374, 19⟩)
  .nil)))))
def f_Player_check : Fn := ⟨["self", "is_tested", "number"], ["self", "is_tested", "number", "shell", "trap", "frame"], b_Player_check⟩
def d_Player_check : Df := ⟨("Player", some ("check" : Str)), "check", "Player.check", inClass (top 39) 18, f_Player_check⟩
def b_Player_check_option : Ss :=
  (.cons (.ife (.ix (.fld (.ix (.fld (.var 0 "self" ⟨377, 11, 377, 15⟩) 16 "shells" ⟨377, 11, 377, 22⟩) (.neg (.int 1 0 ⟨377, 24, 377, 25⟩) ⟨377, 23, 377, 25⟩) ⟨377, 11, 377, 26⟩) 10 "options" ⟨377, 11, 377, 34⟩) (.str [102, 97, 105, 108] 0 ⟨377, 35, 377, 41⟩) ⟨377, 11, 377, 42⟩) (.cons (.sfld (.var 0 "self" ⟨378, 12, 378, 16⟩) 25 "is_failing" ⟨378, 12, 378, 27⟩ (.bl true 0 ⟨378, 30, 378, 34⟩) ⟨378, 12, 378, 34⟩)
  .nil) .nil ⟨377, 8, 378, 34⟩)
  .nil)
def f_Player_check_option : Fn := ⟨["self"], ["self"], b_Player_check_option⟩
def d_Player_check_option : Df := ⟨("Player", some ("check_option" : Str)), "check_option", "Player.check_option", inClass (top 39) 19, f_Player_check_option⟩
def b_Player_end_shell : Ss :=
  (.cons (.set 2 "shell" ⟨381, 8, 381, 13⟩ (.ix (.fld (.var 0 "self" ⟨381, 16, 381, 20⟩) 16 "shells" ⟨381, 16, 381, 27⟩) (.neg (.int 1 0 ⟨381, 29, 381, 30⟩) ⟨381, 28, 381, 30⟩) ⟨381, 16, 381, 31⟩) ⟨381, 8, 381, 31⟩)
  (.cons (.delf (.fld (.var 0 "self" ⟨382, 12, 382, 16⟩) 15 "frames" ⟨382, 12, 382, 23⟩) (.fld (.var 2 "shell" ⟨382, 24, 382, 29⟩) 11 "base" ⟨382, 24, 382, 34⟩) ⟨382, 24, 382, 35⟩ ⟨382, 12, 382, 36⟩ ⟨382, 8, 382, 36⟩)
  (.cons (.ife (.bop .Or (.cons (.isN false (.ix (.fld (.var 2 "shell" ⟨383, 11, 383, 16⟩) 12 "traps" ⟨383, 11, 383, 22⟩) (.str [101, 110, 100] 0 ⟨383, 23, 383, 28⟩) ⟨383, 11, 383, 29⟩) 0 ⟨383, 33, 383, 37⟩ ⟨383, 11, 383, 37⟩) (.cons (.fld (.var 2 "shell" ⟨383, 41, 383, 46⟩) 13 "is_trapped" ⟨383, 41, 383, 57⟩) .nil)) ⟨383, 11, 383, 57⟩) (.cons (.expr (.meth 3 43 (.var 0 "self" ⟨384, 12, 384, 16⟩) "finish_shell" ⟨384, 12, 384, 29⟩ (.cons (.var 1 "status" ⟨384, 30, 384, 36⟩) .nil) ⟨384, 12, 384, 37⟩) ⟨384, 12, 384, 37⟩)
  .nil) (.cons (.ats [.at_ (.var 2 "shell" ⟨386, 12, 386, 17⟩) 13 "is_trapped" ⟨386, 12, 386, 28⟩, .at_ (.var 0 "self" ⟨386, 30, 386, 34⟩) 17 "last" ⟨386, 30, 386, 39⟩] 0 ⟨386, 12, 386, 39⟩ (.tup (.cons (.bl true 0 ⟨386, 43, 386, 47⟩) (.cons (.var 1 "status" ⟨386, 49, 386, 55⟩) .nil)) 0 ⟨386, 42, 386, 56⟩) ⟨386, 12, 386, 56⟩)
  (.cons (.expr (.app (.fld (.var 0 "self" ⟨387, 12, 387, 16⟩) 15 "frames" ⟨387, 12, 387, 23⟩) (.tup (.cons (.str [101, 110, 100] 0 ⟨387, 32, 387, 37⟩) (.cons (.var 1 "status" ⟨387, 39, 387, 45⟩) .nil)) 0 ⟨387, 31, 387, 46⟩) ⟨387, 12, 387, 30⟩ ⟨387, 12, 387, 47⟩) ⟨387, 12, 387, 47⟩)
  (.cons (.sfld (.var 0 "self" ⟨388, 12, 388, 16⟩) 23 "coming" ⟨388, 12, 388, 23⟩ (.tup (.cons (.ix (.ix (.fld (.fld (.var 0 "self" ⟨388, 27, 388, 31⟩) 14 "code" ⟨388, 27, 388, 36⟩) 6 "kids" ⟨388, 27, 388, 41⟩) (.ix (.fld (.var 2 "shell" ⟨388, 42, 388, 47⟩) 12 "traps" ⟨388, 42, 388, 53⟩) (.str [101, 110, 100] 0 ⟨388, 54, 388, 59⟩) ⟨388, 42, 388, 60⟩) ⟨388, 27, 388, 61⟩) (.int 0 0 ⟨388, 62, 388, 63⟩) ⟨388, 27, 388, 64⟩) (.cons (.bl true 0 ⟨388, 66, 388, 70⟩) .nil)) 0 ⟨388, 26, 388, 71⟩) ⟨388, 12, 388, 71⟩)
  .nil))) ⟨383, 8, 388, 71⟩)
  .nil)))
def f_Player_end_shell : Fn := ⟨["self", "status"], ["self", "status", "shell"], b_Player_end_shell⟩
def d_Player_end_shell : Df := ⟨("Player", some ("end_shell" : Str)), "end_shell", "Player.end_shell", inClass (top 39) 20, f_Player_end_shell⟩
def b_Player_finish_shell : Ss :=
  (.cons (.expr (.pop (.fld (.var 0 "self" ⟨391, 8, 391, 12⟩) 16 "shells" ⟨391, 8, 391, 19⟩) ⟨391, 8, 391, 23⟩ ⟨391, 8, 391, 25⟩) ⟨391, 8, 391, 25⟩)
  (.cons (.ife (.cmp .Eq (.fld (.var 0 "self" ⟨392, 11, 392, 15⟩) 16 "shells" ⟨392, 11, 392, 22⟩) (.lst false .nil ⟨392, 26, 392, 28⟩) ⟨392, 11, 392, 28⟩) (.cons (.sfld (.var 0 "self" ⟨393, 12, 393, 16⟩) 19 "ended" ⟨393, 12, 393, 22⟩ (.var 1 "status" ⟨393, 25, 393, 31⟩) ⟨393, 12, 393, 31⟩)
  (.cons (.ret (.non 0 ⟨394, 19, 394, 23⟩) ⟨394, 12, 394, 23⟩)
  .nil)) .nil ⟨392, 8, 394, 23⟩)
  (.cons (.set 2 "frame" ⟨395, 8, 395, 13⟩ (.pop (.fld (.var 0 "self" ⟨395, 16, 395, 20⟩) 15 "frames" ⟨395, 16, 395, 27⟩) ⟨395, 16, 395, 31⟩ ⟨395, 16, 395, 33⟩) ⟨395, 8, 395, 33⟩)
  (.cons (.ife (.cmp .Eq (.ix (.var 2 "frame" ⟨396, 11, 396, 16⟩) (.int 0 0 ⟨396, 17, 396, 18⟩) ⟨396, 11, 396, 19⟩) (.str [115, 117, 98] 0 ⟨396, 23, 396, 28⟩) ⟨396, 11, 396, 28⟩) (.cons (.sfld (.var 0 "self" ⟨397, 12, 397, 16⟩) 17 "last" ⟨397, 12, 397, 21⟩ (.var 1 "status" ⟨397, 24, 397, 30⟩) ⟨397, 12, 397, 30⟩)
  (.cons (.expr (.meth 3 40 (.var 0 "self" ⟨398, 12, 398, 16⟩) "check" ⟨398, 12, 398, 22⟩ (.cons (.ix (.var 2 "frame" ⟨398, 23, 398, 28⟩) (.int 1 0 ⟨398, 29, 398, 30⟩) ⟨398, 23, 398, 31⟩) (.cons (.ix (.var 2 "frame" ⟨398, 33, 398, 38⟩) (.int 2 0 ⟨398, 39, 398, 40⟩) ⟨398, 33, 398, 41⟩) .nil)) ⟨398, 12, 398, 42⟩) ⟨398, 12, 398, 42⟩)
  (.cons (.ret (.non 0 ⟨399, 19, 399, 23⟩) ⟨399, 12, 399, 23⟩)
  .nil))) .nil ⟨396, 8, 399, 23⟩)
  (.cons (.unp (.cons (.nm 3 "word" ⟨400, 8, 400, 12⟩) (.cons (.nm 4 "number" ⟨400, 14, 400, 20⟩) (.cons (.nm 5 "part" ⟨400, 22, 400, 26⟩) (.cons (.nm 6 "is_tested" ⟨400, 28, 400, 37⟩) (.cons (.nm 7 "begin" ⟨400, 39, 400, 44⟩) (.cons (.nm 8 "failure" ⟨400, 46, 400, 53⟩) .nil)))))) 0 ⟨400, 8, 400, 53⟩ (.var 2 "frame" ⟨400, 56, 400, 61⟩) ⟨400, 8, 400, 61⟩)
  (.cons (.set 8 "failure" ⟨401, 8, 401, 15⟩ (.ite (.cmp .Eq (.var 1 "status" ⟨401, 29, 401, 35⟩) (.int 0 0 ⟨401, 39, 401, 40⟩) ⟨401, 29, 401, 40⟩) (.var 8 "failure" ⟨401, 18, 401, 25⟩) (.var 1 "status" ⟨401, 46, 401, 52⟩) ⟨401, 18, 401, 52⟩) ⟨401, 8, 401, 52⟩)
  (.cons (.ife (.cmp .Lt (.bin false .Add (.var 5 "part" ⟨402, 11, 402, 15⟩) (.int 1 0 ⟨402, 18, 402, 19⟩) ⟨402, 11, 402, 19⟩) (.blt .len false ⟨402, 22, 402, 25⟩ (.ix (.fld (.fld (.var 0 "self" ⟨402, 26, 402, 30⟩) 14 "code" ⟨402, 26, 402, 35⟩) 6 "kids" ⟨402, 26, 402, 40⟩) (.var 4 "number" ⟨402, 41, 402, 47⟩) ⟨402, 26, 402, 48⟩) ⟨402, 22, 402, 49⟩) ⟨402, 11, 402, 49⟩) (.cons (.expr (.meth 3 33 (.var 0 "self" ⟨403, 12, 403, 16⟩) "open_part" ⟨403, 12, 403, 26⟩ (.cons (.var 4 "number" ⟨403, 27, 403, 33⟩) (.cons (.bin false .Add (.var 5 "part" ⟨403, 35, 403, 39⟩) (.int 1 0 ⟨403, 42, 403, 43⟩) ⟨403, 35, 403, 43⟩) (.cons (.var 6 "is_tested" ⟨403, 45, 403, 54⟩) (.cons (.var 7 "begin" ⟨403, 56, 403, 61⟩) (.cons (.var 8 "failure" ⟨403, 63, 403, 70⟩) .nil))))) ⟨403, 12, 403, 71⟩) ⟨403, 12, 403, 71⟩)
  .nil) (.cons (.sfld (.var 0 "self" ⟨405, 12, 405, 16⟩) 17 "last" ⟨405, 12, 405, 21⟩ (.ite (.ix (.fld (.ix (.fld (.var 0 "self" ⟨405, 35, 405, 39⟩) 16 "shells" ⟨405, 35, 405, 46⟩) (.neg (.int 1 0 ⟨405, 48, 405, 49⟩) ⟨405, 47, 405, 49⟩) ⟨405, 35, 405, 50⟩) 10 "options" ⟨405, 35, 405, 58⟩) (.str [112, 105, 112, 101, 115] 0 ⟨405, 59, 405, 66⟩) ⟨405, 35, 405, 67⟩) (.var 8 "failure" ⟨405, 24, 405, 31⟩) (.var 1 "status" ⟨405, 73, 405, 79⟩) ⟨405, 24, 405, 79⟩) ⟨405, 12, 405, 79⟩)
  (.cons (.expr (.meth 3 40 (.var 0 "self" ⟨406, 12, 406, 16⟩) "check" ⟨406, 12, 406, 22⟩ (.cons (.var 6 "is_tested" ⟨406, 23, 406, 32⟩) (.cons (.var 4 "number" ⟨406, 34, 406, 40⟩) .nil)) ⟨406, 12, 406, 41⟩) ⟨406, 12, 406, 41⟩)
  .nil)) ⟨402, 8, 406, 41⟩)
  (.cons (.ret (.non 0 ⟨407, 15, 407, 19⟩) ⟨407, 8, 407, 19⟩)
  .nil))))))))
def f_Player_finish_shell : Fn := ⟨["self", "status"], ["self", "status", "frame", "word", "number", "part", "is_tested", "begin", "failure"], b_Player_finish_shell⟩
def d_Player_finish_shell : Df := ⟨("Player", some ("finish_shell" : Str)), "finish_shell", "Player.finish_shell", inClass (top 39) 21, f_Player_finish_shell⟩
def b_started : Ss :=
  (.cons (.set 1 "player" ⟨409, 4, 409, 10⟩ (.make 3 22 "Player" ⟨409, 13, 409, 19⟩ (.cons (.var 0 "code" ⟨409, 20, 409, 24⟩) .nil) ⟨409, 13, 409, 25⟩) ⟨409, 4, 409, 25⟩)
  (.cons (.expr (.meth 3 25 (.var 1 "player" ⟨410, 4, 410, 10⟩) "go_on" ⟨410, 4, 410, 16⟩ .nil ⟨410, 4, 410, 18⟩) ⟨410, 4, 410, 18⟩)
  (.cons (.ret (.var 1 "player" ⟨411, 11, 411, 17⟩) ⟨411, 4, 411, 17⟩)
  .nil)))
def f_started : Fn := ⟨["code"], ["code", "player"], b_started⟩
def d_started : Df := ⟨("started", none), "started", "started", top 40, f_started⟩
def b1_require_row : Ss :=
  (.cons (.ife (.not (.call 2 "is_at_least" ⟨416, 15, 416, 26⟩ (.cons (.var 2 "status" ⟨416, 27, 416, 33⟩) (.cons (.int 0 0 ⟨416, 35, 416, 36⟩) .nil)) ⟨416, 15, 416, 37⟩) ⟨416, 11, 416, 37⟩) (.cons (.rse 5 0 "InvalidRow" ⟨417, 18, 417, 28⟩ (.var 1 "index" ⟨417, 29, 417, 34⟩) ⟨417, 18, 417, 35⟩ ⟨417, 12, 417, 35⟩)
  .nil) .nil ⟨416, 8, 417, 35⟩)
  .nil)
def l2_require_row : S :=
  .for_ (.tp (.cons (.nm 1 "index" ⟨415, 8, 415, 13⟩) (.cons (.nm 2 "status" ⟨415, 15, 415, 21⟩) .nil)) 0 ⟨415, 8, 415, 21⟩) (.enu (.var 0 "row" ⟨415, 35, 415, 38⟩) ⟨415, 25, 415, 34⟩ ⟨415, 25, 415, 39⟩) b1_require_row ⟨415, 4, 417, 35⟩
def b_require_row : Ss :=
  (.cons (.ife (.bop .Or (.cons (.not (.isi2 (.var 0 "row" ⟨413, 22, 413, 25⟩) .list .tuple ⟨413, 11, 413, 21⟩ ⟨413, 28, 413, 32⟩ ⟨413, 34, 413, 39⟩ ⟨413, 27, 413, 40⟩ 0 ⟨413, 11, 413, 41⟩) ⟨413, 7, 413, 41⟩) (.cons (.cmp .Gt (.blt .len false ⟨413, 45, 413, 48⟩ (.var 0 "row" ⟨413, 49, 413, 52⟩) ⟨413, 45, 413, 53⟩) (.glb (.int 10000) "MAX_ROW" ⟨413, 56, 413, 63⟩) ⟨413, 45, 413, 63⟩) .nil)) ⟨413, 7, 413, 63⟩) (.cons (.rse 5 0 "InvalidRow" ⟨414, 14, 414, 24⟩ (.neg (.int 1 0 ⟨414, 26, 414, 27⟩) ⟨414, 25, 414, 27⟩) ⟨414, 14, 414, 28⟩ ⟨414, 8, 414, 28⟩)
  .nil) .nil ⟨413, 4, 414, 28⟩)
  (.cons l2_require_row
  .nil))
def f_require_row : Fn := ⟨["row"], ["row", "index", "status"], b_require_row⟩
def d_require_row : Df := ⟨("require_row", none), "require_row", "require_row", top 41, f_require_row⟩
def b1_played : Ss :=
  (.cons (.ife (.isN true (.fld (.var 2 "player" ⟨421, 11, 421, 17⟩) 18 "asked" ⟨421, 11, 421, 23⟩) 0 ⟨421, 31, 421, 35⟩ ⟨421, 11, 421, 35⟩) (.cons (.expr (.app (.var 3 "found" ⟨422, 12, 422, 17⟩) (.fld (.var 2 "player" ⟨422, 25, 422, 31⟩) 18 "asked" ⟨422, 25, 422, 37⟩) ⟨422, 12, 422, 24⟩ ⟨422, 12, 422, 38⟩) ⟨422, 12, 422, 38⟩)
  (.cons (.expr (.meth 3 24 (.var 2 "player" ⟨423, 12, 423, 18⟩) "tell" ⟨423, 12, 423, 23⟩ (.cons (.var 4 "status" ⟨423, 24, 423, 30⟩) .nil) ⟨423, 12, 423, 31⟩) ⟨423, 12, 423, 31⟩)
  .nil)) .nil ⟨421, 8, 423, 31⟩)
  .nil)
def l2_played : S :=
  .for_ (.nm 4 "status" ⟨420, 8, 420, 14⟩) (.seq (.var 1 "row" ⟨420, 18, 420, 21⟩)) b1_played ⟨420, 4, 423, 31⟩
def b_played : Ss :=
  (.cons (.par 2 3 "player" "found" ⟨419, 4, 419, 10⟩ ⟨419, 12, 419, 17⟩ ⟨419, 4, 419, 17⟩ 0 (.call 44 "started" ⟨419, 21, 419, 28⟩ (.cons (.var 0 "code" ⟨419, 29, 419, 33⟩) .nil) ⟨419, 21, 419, 34⟩) (.lst true .nil ⟨419, 36, 419, 38⟩) 0 ⟨419, 20, 419, 39⟩ ⟨419, 4, 419, 39⟩)
  (.cons l2_played
  (.cons (.ret (.tup (.cons (.var 2 "player" ⟨424, 12, 424, 18⟩) (.cons (.var 3 "found" ⟨424, 20, 424, 25⟩) .nil)) 0 ⟨424, 11, 424, 26⟩) ⟨424, 4, 424, 26⟩)
  .nil)))
def f_played : Fn := ⟨["code", "row"], ["code", "row", "player", "found", "status"], b_played⟩
def d_played : Df := ⟨("played", none), "played", "played", top 42, f_played⟩
def b_outcome_of : Ss :=
  (.cons (.ife (.isN true (.fld (.var 0 "player" ⟨426, 7, 426, 13⟩) 18 "asked" ⟨426, 7, 426, 19⟩) 0 ⟨426, 27, 426, 31⟩ ⟨426, 7, 426, 31⟩) (.cons (.ret (.tup (.cons (.str [97, 115, 107, 115] 0 ⟨427, 16, 427, 22⟩) (.cons (.ix (.ix (.fld (.fld (.var 0 "player" ⟨427, 24, 427, 30⟩) 14 "code" ⟨427, 24, 427, 35⟩) 5 "trees" ⟨427, 24, 427, 41⟩) (.fld (.var 0 "player" ⟨427, 42, 427, 48⟩) 18 "asked" ⟨427, 42, 427, 54⟩) ⟨427, 24, 427, 55⟩) (.int 1 0 ⟨427, 56, 427, 57⟩) ⟨427, 24, 427, 58⟩) .nil)) 0 ⟨427, 15, 427, 59⟩) ⟨427, 8, 427, 59⟩)
  .nil) .nil ⟨426, 4, 427, 59⟩)
  (.cons (.ret (.ite (.fld (.var 0 "player" ⟨428, 31, 428, 37⟩) 20 "is_silent" ⟨428, 31, 428, 47⟩) (.tup (.cons (.str [115, 105, 108, 101, 110, 116] 0 ⟨428, 12, 428, 20⟩) (.cons (.var 1 "used" ⟨428, 22, 428, 26⟩) .nil)) 0 ⟨428, 11, 428, 27⟩) (.tup (.cons (.str [101, 110, 100, 101, 100] 0 ⟨428, 54, 428, 61⟩) (.cons (.fld (.var 0 "player" ⟨428, 63, 428, 69⟩) 19 "ended" ⟨428, 63, 428, 75⟩) (.cons (.var 1 "used" ⟨428, 77, 428, 81⟩) .nil))) 0 ⟨428, 53, 428, 82⟩) ⟨428, 11, 428, 82⟩) ⟨428, 4, 428, 82⟩)
  .nil))
def f_outcome_of : Fn := ⟨["player", "used"], ["player", "used"], b_outcome_of⟩
def d_outcome_of : Df := ⟨("outcome_of", none), "outcome_of", "outcome_of", top 43, f_outcome_of⟩
def e1_run : E :=
  .comp false (.ix (.ix (.fld (.var 2 "code" ⟨434, 13, 434, 17⟩) 5 "trees" ⟨434, 13, 434, 23⟩) (.var 5 "number" ⟨434, 24, 434, 30⟩) ⟨434, 13, 434, 31⟩) (.int 1 0 ⟨434, 32, 434, 33⟩) ⟨434, 13, 434, 34⟩) (.nm 5 "number" ⟨434, 39, 434, 45⟩) (.seq (.var 4 "numbers" ⟨434, 49, 434, 56⟩)) .nil { kind := PySem.ScopeKind.function, names := [ (PySem.Str.ofString ".0", PySem.NameKind.local), (PySem.Str.ofString "number", PySem.NameKind.local), (PySem.Str.ofString "code", PySem.NameKind.free)], isGenerator := false, isCoroutine := false, more := [] : PySem.Scope } [("number", 5)] ⟨434, 12, 434, 57⟩
def s2_run : S :=
  .expr (.call 13 "require_program" ⟨430, 4, 430, 19⟩ (.cons (.var 0 "program" ⟨430, 20, 430, 27⟩) .nil) ⟨430, 4, 430, 28⟩) ⟨430, 4, 430, 28⟩
def s3_run : S :=
  .expr (.call 45 "require_row" ⟨431, 4, 431, 15⟩ (.cons (.var 1 "row" ⟨431, 16, 431, 19⟩) .nil) ⟨431, 4, 431, 20⟩) ⟨431, 4, 431, 20⟩
def s4_run : S :=
  .set 2 "code" ⟨432, 4, 432, 8⟩ (.make 1 18 "Code" ⟨432, 11, 432, 15⟩ (.cons (.var 0 "program" ⟨432, 16, 432, 23⟩) .nil) ⟨432, 11, 432, 24⟩) ⟨432, 4, 432, 24⟩
def s5_run : S :=
  .unp (.cons (.nm 3 "player" ⟨433, 4, 433, 10⟩) (.cons (.nm 4 "numbers" ⟨433, 12, 433, 19⟩) .nil)) 0 ⟨433, 4, 433, 19⟩ (.call 46 "played" ⟨433, 22, 433, 28⟩ (.cons (.var 2 "code" ⟨433, 29, 433, 33⟩) (.cons (.var 1 "row" ⟨433, 35, 433, 38⟩) .nil)) ⟨433, 22, 433, 39⟩) ⟨433, 4, 433, 39⟩
def s6_run : S :=
  .ret (.tup (.cons e1_run (.cons (.call 47 "outcome_of" ⟨434, 59, 434, 69⟩ (.cons (.var 3 "player" ⟨434, 70, 434, 76⟩) (.cons (.blt .len false ⟨434, 78, 434, 81⟩ (.var 4 "numbers" ⟨434, 82, 434, 89⟩) ⟨434, 78, 434, 90⟩) .nil)) ⟨434, 59, 434, 91⟩) .nil)) 0 ⟨434, 11, 434, 92⟩) ⟨434, 4, 434, 92⟩
def b_run : Ss :=
  (.cons s2_run
  (.cons s3_run
  (.cons s4_run
  (.cons s5_run
  (.cons s6_run
  .nil)))))
def f_run : Fn := ⟨["program", "row"], ["program", "row", "code", "player", "numbers", "number"], b_run⟩
def d_run : Df := ⟨("run", none), "run", "run", top 44, f_run⟩
def b__law_mixed : Ss :=
  (.cons (.set 2 "_law_figure" ⟨437, 4, 437, 15⟩ (.bin false .Mod (.blt .int false ⟨437, 18, 437, 21⟩ (.bin false .Mult (.bin false .Add (.bin false .Mod (.blt .int false ⟨437, 23, 437, 26⟩ (.var 0 "_law_cell" ⟨437, 27, 437, 36⟩) ⟨437, 23, 437, 37⟩) (.int 2147483646 0 ⟨437, 40, 437, 50⟩) ⟨437, 23, 437, 50⟩) (.int 1 0 ⟨437, 53, 437, 54⟩) ⟨437, 23, 437, 54⟩) (.bin false .Add (.bin false .Mult (.var 1 "_law_draw" ⟨437, 59, 437, 68⟩) (.int 7919 0 ⟨437, 71, 437, 75⟩) ⟨437, 59, 437, 75⟩) (.int 104729 0 ⟨437, 78, 437, 84⟩) ⟨437, 59, 437, 84⟩) ⟨437, 22, 437, 85⟩) ⟨437, 18, 437, 86⟩) (.int 2147483647 0 ⟨437, 89, 437, 99⟩) ⟨437, 18, 437, 99⟩) ⟨437, 4, 437, 99⟩)
  (.cons (.set 2 "_law_figure" ⟨438, 4, 438, 15⟩ (.bin false .Mod (.blt .int false ⟨438, 18, 438, 21⟩ (.bin false .Mult (.bin false .Add (.var 2 "_law_figure" ⟨438, 23, 438, 34⟩) (.bin false .Mult (.bin false .Mod (.blt .int false ⟨438, 37, 438, 40⟩ (.bin false .FloorDiv (.var 0 "_law_cell" ⟨438, 41, 438, 50⟩) (.int 2147483646 0 ⟨438, 54, 438, 64⟩) ⟨438, 41, 438, 64⟩) ⟨438, 37, 438, 65⟩) (.int 1000003 0 ⟨438, 68, 438, 75⟩) ⟨438, 37, 438, 75⟩) (.bin false .Add (.var 1 "_law_draw" ⟨438, 79, 438, 88⟩) (.int 31 0 ⟨438, 91, 438, 93⟩) ⟨438, 79, 438, 93⟩) ⟨438, 37, 438, 94⟩) ⟨438, 23, 438, 94⟩) (.int 48271 0 ⟨438, 98, 438, 103⟩) ⟨438, 22, 438, 103⟩) ⟨438, 18, 438, 104⟩) (.int 2147483629 0 ⟨438, 107, 438, 117⟩) ⟨438, 18, 438, 117⟩) ⟨438, 4, 438, 117⟩)
  (.cons (.set 2 "_law_figure" ⟨439, 4, 439, 15⟩ (.bin false .Mod (.blt .int false ⟨439, 18, 439, 21⟩ (.bin false .Mult (.var 2 "_law_figure" ⟨439, 22, 439, 33⟩) (.bin false .Add (.bin false .Add (.bin false .FloorDiv (.var 2 "_law_figure" ⟨439, 37, 439, 48⟩) (.int 1013 0 ⟨439, 52, 439, 56⟩) ⟨439, 37, 439, 56⟩) (.int 69621 0 ⟨439, 59, 439, 64⟩) ⟨439, 37, 439, 64⟩) (.var 1 "_law_draw" ⟨439, 67, 439, 76⟩) ⟨439, 37, 439, 76⟩) ⟨439, 22, 439, 77⟩) ⟨439, 18, 439, 78⟩) (.int 2147483587 0 ⟨439, 81, 439, 91⟩) ⟨439, 18, 439, 91⟩) ⟨439, 4, 439, 91⟩)
  (.cons (.ret (.bin false .Mod (.blt .int false ⟨440, 11, 440, 14⟩ (.bin false .Mult (.var 2 "_law_figure" ⟨440, 15, 440, 26⟩) (.bin false .Add (.bin false .FloorDiv (.var 2 "_law_figure" ⟨440, 30, 440, 41⟩) (.int 2003 0 ⟨440, 45, 440, 49⟩) ⟨440, 30, 440, 49⟩) (.int 40692 0 ⟨440, 52, 440, 57⟩) ⟨440, 30, 440, 57⟩) ⟨440, 15, 440, 58⟩) ⟨440, 11, 440, 59⟩) (.int 2147483563 0 ⟨440, 62, 440, 72⟩) ⟨440, 11, 440, 72⟩) ⟨440, 4, 440, 72⟩)
  .nil))))
def f__law_mixed : Fn := ⟨["_law_cell", "_law_draw"], ["_law_cell", "_law_draw", "_law_figure"], b__law_mixed⟩
def d__law_mixed : Df := ⟨("_law_mixed", none), "_law_mixed", "_law_mixed", top 46, f__law_mixed⟩
def b__law_source : Ss :=
  (.cons (.ret (.lst true (.cons (.var 0 "_law_cell" ⟨442, 12, 442, 21⟩) (.cons (.var 0 "_law_cell" ⟨442, 23, 442, 32⟩) (.cons (.int 0 0 ⟨442, 34, 442, 35⟩) .nil))) ⟨442, 11, 442, 36⟩) ⟨442, 4, 442, 36⟩)
  .nil)
def f__law_source : Fn := ⟨["_law_cell"], ["_law_cell"], b__law_source⟩
def d__law_source : Df := ⟨("_law_source", none), "_law_source", "_law_source", top 47, f__law_source⟩
def s1__law_take : S :=
  .set 2 "_law_drawn" ⟨445, 8, 445, 18⟩ (.bin false .Mod (.blt .int false ⟨445, 21, 445, 24⟩ (.ix (.var 0 "_law_source_here" ⟨445, 25, 445, 41⟩) (.int 0 0 ⟨445, 42, 445, 43⟩) ⟨445, 25, 445, 44⟩) ⟨445, 21, 445, 45⟩) (.var 1 "_law_bound" ⟨445, 48, 445, 58⟩) ⟨445, 21, 445, 58⟩) ⟨445, 8, 445, 58⟩
def s2__law_take : S :=
  .ssub (.var 0 "_law_source_here" ⟨446, 8, 446, 24⟩) (.int 0 0 ⟨446, 25, 446, 26⟩) ⟨446, 8, 446, 27⟩ (.bin false .FloorDiv (.ix (.var 0 "_law_source_here" ⟨446, 30, 446, 46⟩) (.int 0 0 ⟨446, 47, 446, 48⟩) ⟨446, 30, 446, 49⟩) (.var 1 "_law_bound" ⟨446, 53, 446, 63⟩) ⟨446, 30, 446, 63⟩) ⟨446, 8, 446, 63⟩
def s3__law_take : S :=
  .ret (.var 2 "_law_drawn" ⟨447, 15, 447, 25⟩) ⟨447, 8, 447, 25⟩
def s4__law_take : S :=
  .ife (.cmp .GtE (.ix (.var 0 "_law_source_here" ⟨444, 7, 444, 23⟩) (.int 0 0 ⟨444, 24, 444, 25⟩) ⟨444, 7, 444, 26⟩) (.bin false .Pow (.int 10 0 ⟨444, 30, 444, 32⟩) (.int 18 0 ⟨444, 36, 444, 38⟩) ⟨444, 30, 444, 38⟩) ⟨444, 7, 444, 38⟩) (.cons s1__law_take
  (.cons s2__law_take
  (.cons s3__law_take
  .nil))) .nil ⟨444, 4, 447, 25⟩
def s5__law_take : S :=
  .ssub (.var 0 "_law_source_here" ⟨448, 4, 448, 20⟩) (.int 2 0 ⟨448, 21, 448, 22⟩) ⟨448, 4, 448, 23⟩ (.bin false .Add (.ix (.var 0 "_law_source_here" ⟨448, 26, 448, 42⟩) (.int 2 0 ⟨448, 43, 448, 44⟩) ⟨448, 26, 448, 45⟩) (.int 1 0 ⟨448, 48, 448, 49⟩) ⟨448, 26, 448, 49⟩) ⟨448, 4, 448, 49⟩
def s6__law_take : S :=
  .ret (.bin false .Mod (.blt .int false ⟨449, 11, 449, 14⟩ (.call 49 "_law_mixed" ⟨449, 15, 449, 25⟩ (.cons (.ix (.var 0 "_law_source_here" ⟨449, 26, 449, 42⟩) (.int 1 0 ⟨449, 43, 449, 44⟩) ⟨449, 26, 449, 45⟩) (.cons (.ix (.var 0 "_law_source_here" ⟨449, 47, 449, 63⟩) (.int 2 0 ⟨449, 64, 449, 65⟩) ⟨449, 47, 449, 66⟩) .nil)) ⟨449, 15, 449, 67⟩) ⟨449, 11, 449, 68⟩) (.var 1 "_law_bound" ⟨449, 71, 449, 81⟩) ⟨449, 11, 449, 81⟩) ⟨449, 4, 449, 81⟩
def b__law_take : Ss :=
  (.cons s4__law_take
  (.cons s5__law_take
  (.cons s6__law_take
  .nil)))
def f__law_take : Fn := ⟨["_law_source_here", "_law_bound"], ["_law_source_here", "_law_bound", "_law_drawn"], b__law_take⟩
def d__law_take : Df := ⟨("_law_take", none), "_law_take", "_law_take", top 48, f__law_take⟩
def b__law_pick : Ss :=
  (.cons (.ret (.ix (.var 1 "_law_options" ⟨451, 11, 451, 23⟩) (.call 51 "_law_take" ⟨451, 24, 451, 33⟩ (.cons (.var 0 "_law_source_here" ⟨451, 34, 451, 50⟩) (.cons (.blt .len false ⟨451, 52, 451, 55⟩ (.var 1 "_law_options" ⟨451, 56, 451, 68⟩) ⟨451, 52, 451, 69⟩) .nil)) ⟨451, 24, 451, 70⟩) ⟨451, 11, 451, 71⟩) ⟨451, 4, 451, 71⟩)
  .nil)
def f__law_pick : Fn := ⟨["_law_source_here", "_law_options"], ["_law_source_here", "_law_options"], b__law_pick⟩
def d__law_pick : Df := ⟨("_law_pick", none), "_law_pick", "_law_pick", top 49, f__law_pick⟩
def s1__law_shown : S :=
  .ret (.tup (.cons (.str [105, 102] 0 ⟨453, 12, 453, 16⟩) (.cons (.var 0 "_law_tree" ⟨453, 18, 453, 27⟩) (.cons (.tup (.cons (.str [114, 117, 110] 0 ⟨453, 30, 453, 35⟩) (.cons (.str [119, 101, 108, 108] 0 ⟨453, 37, 453, 43⟩) .nil)) 0 ⟨453, 29, 453, 44⟩) (.cons (.tup (.cons (.str [114, 117, 110] 0 ⟨453, 47, 453, 52⟩) (.cons (.str [98, 97, 100] 0 ⟨453, 54, 453, 59⟩) .nil)) 0 ⟨453, 46, 453, 60⟩) .nil)))) 0 ⟨453, 11, 453, 61⟩) ⟨453, 4, 453, 61⟩
def b__law_shown : Ss :=
  (.cons s1__law_shown
  .nil)
def f__law_shown : Fn := ⟨["_law_tree"], ["_law_tree"], b__law_shown⟩
def d__law_shown : Df := ⟨("_law_shown", none), "_law_shown", "_law_shown", top 50, f__law_shown⟩
def s1__law_loops : S :=
  .unp (.cons (.nm 3 "_law_a" ⟨455, 4, 455, 10⟩) (.cons (.nm 4 "_law_b" ⟨455, 12, 455, 18⟩) (.cons (.nm 5 "_law_c" ⟨455, 20, 455, 26⟩) .nil))) 0 ⟨455, 4, 455, 26⟩ (.tup (.cons (.tup (.cons (.str [114, 117, 110] 0 ⟨455, 31, 455, 36⟩) (.cons (.str [97] 0 ⟨455, 38, 455, 41⟩) .nil)) 0 ⟨455, 30, 455, 42⟩) (.cons (.tup (.cons (.str [114, 117, 110] 0 ⟨455, 45, 455, 50⟩) (.cons (.str [98] 0 ⟨455, 52, 455, 55⟩) .nil)) 0 ⟨455, 44, 455, 56⟩) (.cons (.tup (.cons (.str [114, 117, 110] 0 ⟨455, 59, 455, 64⟩) (.cons (.str [99] 0 ⟨455, 66, 455, 69⟩) .nil)) 0 ⟨455, 58, 455, 70⟩) .nil))) 0 ⟨455, 29, 455, 71⟩) ⟨455, 4, 455, 71⟩
def s2__law_loops : S :=
  .set 6 "_law_found" ⟨456, 4, 456, 14⟩ (.lst true (.cons (.tup (.cons (.tup (.cons (.str [119, 104, 105, 108, 101] 0 ⟨456, 20, 456, 27⟩) (.cons (.var 3 "_law_a" ⟨456, 29, 456, 35⟩) (.cons (.tup (.cons (.str [98, 114, 101, 97, 107] 0 ⟨456, 38, 456, 45⟩) (.cons (.int 1 0 ⟨456, 47, 456, 48⟩) .nil)) 0 ⟨456, 37, 456, 49⟩) .nil))) 0 ⟨456, 19, 456, 50⟩) (.cons (.lst false (.cons (.int 0 0 ⟨456, 53, 456, 54⟩) .nil) ⟨456, 52, 456, 55⟩) (.cons (.bl true 0 ⟨456, 57, 456, 61⟩) .nil))) 0 ⟨456, 18, 456, 62⟩) (.cons (.tup (.cons (.tup (.cons (.str [117, 110, 116, 105, 108] 0 ⟨456, 66, 456, 73⟩) (.cons (.var 3 "_law_a" ⟨456, 75, 456, 81⟩) (.cons (.tup (.cons (.str [115, 116, 97, 116, 117, 115] 0 ⟨456, 84, 456, 92⟩) (.cons (.var 2 "_law_n" ⟨456, 94, 456, 100⟩) .nil)) 0 ⟨456, 83, 456, 101⟩) .nil))) 0 ⟨456, 65, 456, 102⟩) (.cons (.lst false (.cons (.var 0 "_law_one" ⟨456, 105, 456, 113⟩) (.cons (.int 0 0 ⟨456, 115, 456, 116⟩) .nil)) ⟨456, 104, 456, 117⟩) (.cons (.bl false 0 ⟨456, 119, 456, 124⟩) .nil))) 0 ⟨456, 64, 456, 125⟩) .nil)) ⟨456, 17, 456, 126⟩) ⟨456, 4, 456, 126⟩
def s3__law_loops : S :=
  .expr (.app (.var 6 "_law_found" ⟨457, 4, 457, 14⟩) (.tup (.cons (.tup (.cons (.str [119, 104, 105, 108, 101] 0 ⟨457, 24, 457, 31⟩) (.cons (.var 3 "_law_a" ⟨457, 33, 457, 39⟩) (.cons (.var 4 "_law_b" ⟨457, 41, 457, 47⟩) .nil))) 0 ⟨457, 23, 457, 48⟩) (.cons (.lst false (.cons (.int 0 0 ⟨457, 51, 457, 52⟩) (.cons (.var 0 "_law_one" ⟨457, 54, 457, 62⟩) (.cons (.var 1 "_law_other" ⟨457, 64, 457, 74⟩) .nil))) ⟨457, 50, 457, 75⟩) (.cons (.bl false 0 ⟨457, 77, 457, 82⟩) .nil))) 0 ⟨457, 22, 457, 83⟩) ⟨457, 4, 457, 21⟩ ⟨457, 4, 457, 84⟩) ⟨457, 4, 457, 84⟩
def s4__law_loops : S :=
  .expr (.app (.var 6 "_law_found" ⟨458, 4, 458, 14⟩) (.tup (.cons (.tup (.cons (.str [119, 104, 105, 108, 101] 0 ⟨458, 24, 458, 31⟩) (.cons (.var 3 "_law_a" ⟨458, 33, 458, 39⟩) (.cons (.var 4 "_law_b" ⟨458, 41, 458, 47⟩) .nil))) 0 ⟨458, 23, 458, 48⟩) (.cons (.lst false (.cons (.int 0 0 ⟨458, 51, 458, 52⟩) (.cons (.var 0 "_law_one" ⟨458, 54, 458, 62⟩) (.cons (.int 0 0 ⟨458, 64, 458, 65⟩) (.cons (.int 0 0 ⟨458, 67, 458, 68⟩) (.cons (.var 1 "_law_other" ⟨458, 70, 458, 80⟩) .nil))))) ⟨458, 50, 458, 81⟩) (.cons (.bl true 0 ⟨458, 83, 458, 87⟩) .nil))) 0 ⟨458, 22, 458, 88⟩) ⟨458, 4, 458, 21⟩ ⟨458, 4, 458, 89⟩) ⟨458, 4, 458, 89⟩
def s5__law_loops : S :=
  .expr (.app (.var 6 "_law_found" ⟨459, 4, 459, 14⟩) (.tup (.cons (.tup (.cons (.str [119, 104, 105, 108, 101] 0 ⟨459, 24, 459, 31⟩) (.cons (.var 3 "_law_a" ⟨459, 33, 459, 39⟩) (.cons (.var 4 "_law_b" ⟨459, 41, 459, 47⟩) .nil))) 0 ⟨459, 23, 459, 48⟩) (.cons (.lst false (.cons (.var 0 "_law_one" ⟨459, 51, 459, 59⟩) .nil) ⟨459, 50, 459, 60⟩) (.cons (.bl true 0 ⟨459, 62, 459, 66⟩) .nil))) 0 ⟨459, 22, 459, 67⟩) ⟨459, 4, 459, 21⟩ ⟨459, 4, 459, 68⟩) ⟨459, 4, 459, 68⟩
def s6__law_loops : S :=
  .expr (.app (.var 6 "_law_found" ⟨460, 4, 460, 14⟩) (.tup (.cons (.tup (.cons (.str [116, 105, 109, 101, 115] 0 ⟨460, 24, 460, 31⟩) (.cons (.int 0 0 ⟨460, 33, 460, 34⟩) (.cons (.var 3 "_law_a" ⟨460, 36, 460, 42⟩) .nil))) 0 ⟨460, 23, 460, 43⟩) (.cons (.lst false .nil ⟨460, 45, 460, 47⟩) (.cons (.bl true 0 ⟨460, 49, 460, 53⟩) .nil))) 0 ⟨460, 22, 460, 54⟩) ⟨460, 4, 460, 21⟩ ⟨460, 4, 460, 55⟩) ⟨460, 4, 460, 55⟩
def s7__law_loops : S :=
  .set 7 "_law_skip" ⟨461, 4, 461, 13⟩ (.tup (.cons (.str [116, 105, 109, 101, 115] 0 ⟨461, 17, 461, 24⟩) (.cons (.int 3 0 ⟨461, 26, 461, 27⟩) (.cons (.tup (.cons (.str [105, 102] 0 ⟨461, 30, 461, 34⟩) (.cons (.var 3 "_law_a" ⟨461, 36, 461, 42⟩) (.cons (.tup (.cons (.str [110, 101, 120, 116] 0 ⟨461, 45, 461, 51⟩) (.cons (.int 1 0 ⟨461, 53, 461, 54⟩) .nil)) 0 ⟨461, 44, 461, 55⟩) (.cons (.tup (.cons (.str [115, 116, 97, 116, 117, 115] 0 ⟨461, 58, 461, 66⟩) (.cons (.var 2 "_law_n" ⟨461, 68, 461, 74⟩) .nil)) 0 ⟨461, 57, 461, 75⟩) .nil)))) 0 ⟨461, 29, 461, 76⟩) .nil))) 0 ⟨461, 16, 461, 77⟩) ⟨461, 4, 461, 77⟩
def s8__law_loops : S :=
  .expr (.ext (.var 6 "_law_found" ⟨462, 4, 462, 14⟩) (.lst false (.cons (.tup (.cons (.var 7 "_law_skip" ⟨462, 24, 462, 33⟩) (.cons (.lst false (.cons (.int 0 0 ⟨462, 36, 462, 37⟩) (.cons (.var 0 "_law_one" ⟨462, 39, 462, 47⟩) (.cons (.int 0 0 ⟨462, 49, 462, 50⟩) .nil))) ⟨462, 35, 462, 51⟩) (.cons (.bl true 0 ⟨462, 53, 462, 57⟩) .nil))) 0 ⟨462, 23, 462, 58⟩) (.cons (.tup (.cons (.var 7 "_law_skip" ⟨462, 61, 462, 70⟩) (.cons (.lst false (.cons (.int 0 0 ⟨462, 73, 462, 74⟩) (.cons (.int 0 0 ⟨462, 76, 462, 77⟩) (.cons (.var 0 "_law_one" ⟨462, 79, 462, 87⟩) .nil))) ⟨462, 72, 462, 88⟩) (.cons (.bl false 0 ⟨462, 90, 462, 95⟩) .nil))) 0 ⟨462, 60, 462, 96⟩) (.cons (.tup (.cons (.var 7 "_law_skip" ⟨462, 99, 462, 108⟩) (.cons (.lst false (.cons (.var 0 "_law_one" ⟨462, 111, 462, 119⟩) (.cons (.var 0 "_law_one" ⟨462, 121, 462, 129⟩) (.cons (.int 0 0 ⟨462, 131, 462, 132⟩) .nil))) ⟨462, 110, 462, 133⟩) (.cons (.bl true 0 ⟨462, 135, 462, 139⟩) .nil))) 0 ⟨462, 98, 462, 140⟩) .nil))) ⟨462, 22, 462, 141⟩) ⟨462, 4, 462, 21⟩ ⟨462, 4, 462, 142⟩) ⟨462, 4, 462, 142⟩
def s9__law_loops : S :=
  .expr (.app (.var 6 "_law_found" ⟨463, 4, 463, 14⟩) (.tup (.cons (.tup (.cons (.str [119, 104, 105, 108, 101] 0 ⟨463, 24, 463, 31⟩) (.cons (.var 3 "_law_a" ⟨463, 33, 463, 39⟩) (.cons (.tup (.cons (.str [117, 110, 116, 105, 108] 0 ⟨463, 42, 463, 49⟩) (.cons (.tup (.cons (.str [115, 101, 113] 0 ⟨463, 52, 463, 57⟩) (.cons (.tup (.cons (.var 4 "_law_b" ⟨463, 60, 463, 66⟩) (.cons (.tup (.cons (.str [98, 114, 101, 97, 107] 0 ⟨463, 69, 463, 76⟩) (.cons (.int 2 0 ⟨463, 78, 463, 79⟩) .nil)) 0 ⟨463, 68, 463, 80⟩) .nil)) 0 ⟨463, 59, 463, 81⟩) .nil)) 0 ⟨463, 51, 463, 82⟩) (.cons (.var 5 "_law_c" ⟨463, 84, 463, 90⟩) .nil))) 0 ⟨463, 41, 463, 91⟩) .nil))) 0 ⟨463, 23, 463, 92⟩) (.cons (.lst false (.cons (.int 0 0 ⟨463, 95, 463, 96⟩) (.cons (.var 0 "_law_one" ⟨463, 98, 463, 106⟩) .nil)) ⟨463, 94, 463, 107⟩) (.cons (.bl true 0 ⟨463, 109, 463, 113⟩) .nil))) 0 ⟨463, 22, 463, 114⟩) ⟨463, 4, 463, 21⟩ ⟨463, 4, 463, 115⟩) ⟨463, 4, 463, 115⟩
def s10__law_loops : S :=
  .expr (.app (.var 6 "_law_found" ⟨464, 4, 464, 14⟩) (.tup (.cons (.tup (.cons (.str [119, 104, 105, 108, 101] 0 ⟨464, 24, 464, 31⟩) (.cons (.tup (.cons (.str [115, 101, 113] 0 ⟨464, 34, 464, 39⟩) (.cons (.tup (.cons (.var 3 "_law_a" ⟨464, 42, 464, 48⟩) (.cons (.tup (.cons (.str [98, 114, 101, 97, 107] 0 ⟨464, 51, 464, 58⟩) (.cons (.int 1 0 ⟨464, 60, 464, 61⟩) .nil)) 0 ⟨464, 50, 464, 62⟩) .nil)) 0 ⟨464, 41, 464, 63⟩) .nil)) 0 ⟨464, 33, 464, 64⟩) (.cons (.var 4 "_law_b" ⟨464, 66, 464, 72⟩) .nil))) 0 ⟨464, 23, 464, 73⟩) (.cons (.lst false (.cons (.var 0 "_law_one" ⟨464, 76, 464, 84⟩) .nil) ⟨464, 75, 464, 85⟩) (.cons (.bl true 0 ⟨464, 87, 464, 91⟩) .nil))) 0 ⟨464, 22, 464, 92⟩) ⟨464, 4, 464, 21⟩ ⟨464, 4, 464, 93⟩) ⟨464, 4, 464, 93⟩
def s11__law_loops : S :=
  .expr (.app (.var 6 "_law_found" ⟨465, 4, 465, 14⟩) (.tup (.cons (.tup (.cons (.str [117, 110, 116, 105, 108] 0 ⟨465, 24, 465, 31⟩) (.cons (.tup (.cons (.str [111, 114] 0 ⟨465, 34, 465, 38⟩) (.cons (.var 3 "_law_a" ⟨465, 40, 465, 46⟩) (.cons (.tup (.cons (.str [110, 101, 120, 116] 0 ⟨465, 49, 465, 55⟩) (.cons (.int 1 0 ⟨465, 57, 465, 58⟩) .nil)) 0 ⟨465, 48, 465, 59⟩) .nil))) 0 ⟨465, 33, 465, 60⟩) (.cons (.var 4 "_law_b" ⟨465, 62, 465, 68⟩) .nil))) 0 ⟨465, 23, 465, 69⟩) (.cons (.lst false (.cons (.var 0 "_law_one" ⟨465, 72, 465, 80⟩) (.cons (.var 1 "_law_other" ⟨465, 82, 465, 92⟩) (.cons (.int 0 0 ⟨465, 94, 465, 95⟩) .nil))) ⟨465, 71, 465, 96⟩) (.cons (.bl true 0 ⟨465, 98, 465, 102⟩) .nil))) 0 ⟨465, 22, 465, 103⟩) ⟨465, 4, 465, 21⟩ ⟨465, 4, 465, 104⟩) ⟨465, 4, 465, 104⟩
def s12__law_loops : S :=
  .expr (.app (.var 6 "_law_found" ⟨466, 4, 466, 14⟩) (.tup (.cons (.tup (.cons (.str [117, 110, 116, 105, 108] 0 ⟨466, 24, 466, 31⟩) (.cons (.tup (.cons (.str [115, 101, 113] 0 ⟨466, 34, 466, 39⟩) (.cons (.tup (.cons (.tup (.cons (.str [111, 114] 0 ⟨466, 43, 466, 47⟩) (.cons (.var 3 "_law_a" ⟨466, 49, 466, 55⟩) (.cons (.tup (.cons (.str [110, 101, 120, 116] 0 ⟨466, 58, 466, 64⟩) (.cons (.int 1 0 ⟨466, 66, 466, 67⟩) .nil)) 0 ⟨466, 57, 466, 68⟩) .nil))) 0 ⟨466, 42, 466, 69⟩) (.cons (.var 4 "_law_b" ⟨466, 71, 466, 77⟩) .nil)) 0 ⟨466, 41, 466, 78⟩) .nil)) 0 ⟨466, 33, 466, 79⟩) (.cons (.var 5 "_law_c" ⟨466, 81, 466, 87⟩) .nil))) 0 ⟨466, 23, 466, 88⟩) (.cons (.lst false (.cons (.int 0 0 ⟨466, 91, 466, 92⟩) (.cons (.var 0 "_law_one" ⟨466, 94, 466, 102⟩) (.cons (.var 1 "_law_other" ⟨466, 104, 466, 114⟩) (.cons (.var 0 "_law_one" ⟨466, 116, 466, 124⟩) (.cons (.int 0 0 ⟨466, 126, 466, 127⟩) (.cons (.int 0 0 ⟨466, 129, 466, 130⟩) .nil)))))) ⟨466, 90, 466, 131⟩) (.cons (.bl true 0 ⟨466, 133, 466, 137⟩) .nil))) 0 ⟨466, 22, 466, 138⟩) ⟨466, 4, 466, 21⟩ ⟨466, 4, 466, 139⟩) ⟨466, 4, 466, 139⟩
def s13__law_loops : S :=
  .expr (.app (.var 6 "_law_found" ⟨467, 4, 467, 14⟩) (.tup (.cons (.tup (.cons (.str [116, 105, 109, 101, 115] 0 ⟨467, 24, 467, 31⟩) (.cons (.int 2 0 ⟨467, 33, 467, 34⟩) (.cons (.tup (.cons (.str [116, 105, 109, 101, 115] 0 ⟨467, 37, 467, 44⟩) (.cons (.int 3 0 ⟨467, 46, 467, 47⟩) (.cons (.tup (.cons (.str [115, 101, 113] 0 ⟨467, 50, 467, 55⟩) (.cons (.tup (.cons (.var 3 "_law_a" ⟨467, 58, 467, 64⟩) (.cons (.tup (.cons (.str [110, 101, 120, 116] 0 ⟨467, 67, 467, 73⟩) (.cons (.int 2 0 ⟨467, 75, 467, 76⟩) .nil)) 0 ⟨467, 66, 467, 77⟩) .nil)) 0 ⟨467, 57, 467, 78⟩) .nil)) 0 ⟨467, 49, 467, 79⟩) .nil))) 0 ⟨467, 36, 467, 80⟩) .nil))) 0 ⟨467, 23, 467, 81⟩) (.cons (.lst false (.cons (.var 0 "_law_one" ⟨467, 84, 467, 92⟩) (.cons (.var 1 "_law_other" ⟨467, 94, 467, 104⟩) .nil)) ⟨467, 83, 467, 105⟩) (.cons (.bl true 0 ⟨467, 107, 467, 111⟩) .nil))) 0 ⟨467, 22, 467, 112⟩) ⟨467, 4, 467, 21⟩ ⟨467, 4, 467, 113⟩) ⟨467, 4, 467, 113⟩
def s14__law_loops : S :=
  .expr (.app (.var 6 "_law_found" ⟨468, 4, 468, 14⟩) (.tup (.cons (.tup (.cons (.str [116, 105, 109, 101, 115] 0 ⟨468, 24, 468, 31⟩) (.cons (.int 2 0 ⟨468, 33, 468, 34⟩) (.cons (.tup (.cons (.str [116, 105, 109, 101, 115] 0 ⟨468, 37, 468, 44⟩) (.cons (.int 3 0 ⟨468, 46, 468, 47⟩) (.cons (.tup (.cons (.str [111, 114] 0 ⟨468, 50, 468, 54⟩) (.cons (.var 3 "_law_a" ⟨468, 56, 468, 62⟩) (.cons (.tup (.cons (.str [98, 114, 101, 97, 107] 0 ⟨468, 65, 468, 72⟩) (.cons (.int 2 0 ⟨468, 74, 468, 75⟩) .nil)) 0 ⟨468, 64, 468, 76⟩) .nil))) 0 ⟨468, 49, 468, 77⟩) .nil))) 0 ⟨468, 36, 468, 78⟩) .nil))) 0 ⟨468, 23, 468, 79⟩) (.cons (.lst false (.cons (.int 0 0 ⟨468, 82, 468, 83⟩) (.cons (.int 0 0 ⟨468, 85, 468, 86⟩) (.cons (.var 0 "_law_one" ⟨468, 88, 468, 96⟩) .nil))) ⟨468, 81, 468, 97⟩) (.cons (.bl true 0 ⟨468, 99, 468, 103⟩) .nil))) 0 ⟨468, 22, 468, 104⟩) ⟨468, 4, 468, 21⟩ ⟨468, 4, 468, 105⟩) ⟨468, 4, 468, 105⟩
def s15__law_loops : S :=
  .expr (.app (.var 6 "_law_found" ⟨469, 4, 469, 14⟩) (.tup (.cons (.tup (.cons (.str [116, 105, 109, 101, 115] 0 ⟨469, 24, 469, 31⟩) (.cons (.int 2 0 ⟨469, 33, 469, 34⟩) (.cons (.tup (.cons (.str [115, 101, 113] 0 ⟨469, 37, 469, 42⟩) (.cons (.tup (.cons (.tup (.cons (.str [116, 105, 109, 101, 115] 0 ⟨469, 46, 469, 53⟩) (.cons (.int 1 0 ⟨469, 55, 469, 56⟩) (.cons (.tup (.cons (.str [111, 114] 0 ⟨469, 59, 469, 63⟩) (.cons (.var 3 "_law_a" ⟨469, 65, 469, 71⟩) (.cons (.tup (.cons (.str [98, 114, 101, 97, 107] 0 ⟨469, 74, 469, 81⟩) (.cons (.int 1 0 ⟨469, 83, 469, 84⟩) .nil)) 0 ⟨469, 73, 469, 85⟩) .nil))) 0 ⟨469, 58, 469, 86⟩) .nil))) 0 ⟨469, 45, 469, 87⟩) (.cons (.var 4 "_law_b" ⟨469, 89, 469, 95⟩) .nil)) 0 ⟨469, 44, 469, 96⟩) .nil)) 0 ⟨469, 36, 469, 97⟩) .nil))) 0 ⟨469, 23, 469, 98⟩) (.cons (.lst false (.cons (.var 0 "_law_one" ⟨469, 101, 469, 109⟩) (.cons (.int 0 0 ⟨469, 111, 469, 112⟩) (.cons (.int 0 0 ⟨469, 114, 469, 115⟩) (.cons (.var 1 "_law_other" ⟨469, 117, 469, 127⟩) .nil)))) ⟨469, 100, 469, 128⟩) (.cons (.bl false 0 ⟨469, 130, 469, 135⟩) .nil))) 0 ⟨469, 22, 469, 136⟩) ⟨469, 4, 469, 21⟩ ⟨469, 4, 469, 137⟩) ⟨469, 4, 469, 137⟩
def s16__law_loops : S :=
  .expr (.app (.var 6 "_law_found" ⟨470, 4, 470, 14⟩) (.tup (.cons (.tup (.cons (.str [110, 111, 116] 0 ⟨470, 24, 470, 29⟩) (.cons (.tup (.cons (.str [119, 104, 105, 108, 101] 0 ⟨470, 32, 470, 39⟩) (.cons (.var 3 "_law_a" ⟨470, 41, 470, 47⟩) (.cons (.tup (.cons (.str [115, 101, 113] 0 ⟨470, 50, 470, 55⟩) (.cons (.tup (.cons (.var 4 "_law_b" ⟨470, 58, 470, 64⟩) (.cons (.tup (.cons (.str [98, 114, 101, 97, 107] 0 ⟨470, 67, 470, 74⟩) (.cons (.int 1 0 ⟨470, 76, 470, 77⟩) .nil)) 0 ⟨470, 66, 470, 78⟩) .nil)) 0 ⟨470, 57, 470, 79⟩) .nil)) 0 ⟨470, 49, 470, 80⟩) .nil))) 0 ⟨470, 31, 470, 81⟩) .nil)) 0 ⟨470, 23, 470, 82⟩) (.cons (.lst false (.cons (.int 0 0 ⟨470, 85, 470, 86⟩) (.cons (.var 0 "_law_one" ⟨470, 88, 470, 96⟩) .nil)) ⟨470, 84, 470, 97⟩) (.cons (.bl false 0 ⟨470, 99, 470, 104⟩) .nil))) 0 ⟨470, 22, 470, 105⟩) ⟨470, 4, 470, 21⟩ ⟨470, 4, 470, 106⟩) ⟨470, 4, 470, 106⟩
def s17__law_loops : S :=
  .expr (.app (.var 6 "_law_found" ⟨471, 4, 471, 14⟩) (.tup (.cons (.tup (.cons (.str [115, 101, 113] 0 ⟨471, 24, 471, 29⟩) (.cons (.tup (.cons (.var 3 "_law_a" ⟨471, 32, 471, 38⟩) (.cons (.tup (.cons (.str [116, 105, 109, 101, 115] 0 ⟨471, 41, 471, 48⟩) (.cons (.int 1 0 ⟨471, 50, 471, 51⟩) (.cons (.tup (.cons (.str [107, 101, 101, 112] 0 ⟨471, 54, 471, 60⟩) (.cons (.str [120] 0 ⟨471, 62, 471, 65⟩) .nil)) 0 ⟨471, 53, 471, 66⟩) .nil))) 0 ⟨471, 40, 471, 67⟩) (.cons (.tup (.cons (.str [103, 105, 118, 101] 0 ⟨471, 70, 471, 76⟩) (.cons (.str [120] 0 ⟨471, 78, 471, 81⟩) .nil)) 0 ⟨471, 69, 471, 82⟩) .nil))) 0 ⟨471, 31, 471, 83⟩) .nil)) 0 ⟨471, 23, 471, 84⟩) (.cons (.lst false (.cons (.var 0 "_law_one" ⟨471, 87, 471, 95⟩) .nil) ⟨471, 86, 471, 96⟩) (.cons (.bl false 0 ⟨471, 98, 471, 103⟩) .nil))) 0 ⟨471, 22, 471, 104⟩) ⟨471, 4, 471, 21⟩ ⟨471, 4, 471, 105⟩) ⟨471, 4, 471, 105⟩
def s18__law_loops : S :=
  .ret (.var 6 "_law_found" ⟨472, 11, 472, 21⟩) ⟨472, 4, 472, 21⟩
def b__law_loops : Ss :=
  (.cons s1__law_loops
  (.cons s2__law_loops
  (.cons s3__law_loops
  (.cons s4__law_loops
  (.cons s5__law_loops
  (.cons s6__law_loops
  (.cons s7__law_loops
  (.cons s8__law_loops
  (.cons s9__law_loops
  (.cons s10__law_loops
  (.cons s11__law_loops
  (.cons s12__law_loops
  (.cons s13__law_loops
  (.cons s14__law_loops
  (.cons s15__law_loops
  (.cons s16__law_loops
  (.cons s17__law_loops
  (.cons s18__law_loops
  .nil))))))))))))))))))
def f__law_loops : Fn := ⟨["_law_one", "_law_other", "_law_n"], ["_law_one", "_law_other", "_law_n", "_law_a", "_law_b", "_law_c", "_law_found", "_law_skip"], b__law_loops⟩
def d__law_loops : Df := ⟨("_law_loops", none), "_law_loops", "_law_loops", top 51, f__law_loops⟩
def s1__law_calls : S :=
  .unp (.cons (.nm 3 "_law_a" ⟨474, 4, 474, 10⟩) (.cons (.nm 4 "_law_b" ⟨474, 12, 474, 18⟩) .nil)) 0 ⟨474, 4, 474, 18⟩ (.tup (.cons (.tup (.cons (.str [114, 117, 110] 0 ⟨474, 23, 474, 28⟩) (.cons (.str [97] 0 ⟨474, 30, 474, 33⟩) .nil)) 0 ⟨474, 22, 474, 34⟩) (.cons (.tup (.cons (.str [114, 117, 110] 0 ⟨474, 37, 474, 42⟩) (.cons (.str [98] 0 ⟨474, 44, 474, 47⟩) .nil)) 0 ⟨474, 36, 474, 48⟩) .nil)) 0 ⟨474, 21, 474, 49⟩) ⟨474, 4, 474, 49⟩
def s2__law_calls : S :=
  .set 5 "_law_call" ⟨475, 4, 475, 13⟩ (.tup (.cons (.str [99, 97, 108, 108] 0 ⟨475, 17, 475, 23⟩) (.cons (.str [102] 0 ⟨475, 25, 475, 28⟩) .nil)) 0 ⟨475, 16, 475, 29⟩) ⟨475, 4, 475, 29⟩
def s3__law_calls : S :=
  .set 6 "_law_found" ⟨476, 4, 476, 14⟩ (.lst true (.cons (.tup (.cons (.tup (.cons (.str [114, 101, 116, 117, 114, 110] 0 ⟨476, 20, 476, 28⟩) (.cons (.non 0 ⟨476, 30, 476, 34⟩) .nil)) 0 ⟨476, 19, 476, 35⟩) (.cons (.tup (.cons (.str [115, 101, 113] 0 ⟨476, 38, 476, 43⟩) (.cons (.tup (.cons (.var 3 "_law_a" ⟨476, 46, 476, 52⟩) (.cons (.var 5 "_law_call" ⟨476, 54, 476, 63⟩) .nil)) 0 ⟨476, 45, 476, 64⟩) .nil)) 0 ⟨476, 37, 476, 65⟩) (.cons (.lst false (.cons (.var 0 "_law_one" ⟨476, 68, 476, 76⟩) .nil) ⟨476, 67, 476, 77⟩) (.cons (.bl false 0 ⟨476, 79, 476, 84⟩) .nil)))) 0 ⟨476, 18, 476, 85⟩) (.cons (.tup (.cons (.tup (.cons (.str [114, 101, 116, 117, 114, 110] 0 ⟨476, 89, 476, 97⟩) (.cons (.non 0 ⟨476, 99, 476, 103⟩) .nil)) 0 ⟨476, 88, 476, 104⟩) (.cons (.tup (.cons (.str [115, 101, 113] 0 ⟨476, 107, 476, 112⟩) (.cons (.tup (.cons (.var 3 "_law_a" ⟨476, 115, 476, 121⟩) (.cons (.var 5 "_law_call" ⟨476, 123, 476, 132⟩) .nil)) 0 ⟨476, 114, 476, 133⟩) .nil)) 0 ⟨476, 106, 476, 134⟩) (.cons (.lst false (.cons (.int 0 0 ⟨476, 137, 476, 138⟩) .nil) ⟨476, 136, 476, 139⟩) (.cons (.bl true 0 ⟨476, 141, 476, 145⟩) .nil)))) 0 ⟨476, 87, 476, 146⟩) .nil)) ⟨476, 17, 476, 147⟩) ⟨476, 4, 476, 147⟩
def s4__law_calls : S :=
  .expr (.app (.var 6 "_law_found" ⟨477, 4, 477, 14⟩) (.tup (.cons (.tup (.cons (.str [115, 101, 113] 0 ⟨477, 24, 477, 29⟩) (.cons (.tup (.cons (.tup (.cons (.str [115, 116, 97, 116, 117, 115] 0 ⟨477, 33, 477, 41⟩) (.cons (.int 0 0 ⟨477, 43, 477, 44⟩) .nil)) 0 ⟨477, 32, 477, 45⟩) (.cons (.tup (.cons (.str [114, 101, 116, 117, 114, 110] 0 ⟨477, 48, 477, 56⟩) (.cons (.non 0 ⟨477, 58, 477, 62⟩) .nil)) 0 ⟨477, 47, 477, 63⟩) .nil)) 0 ⟨477, 31, 477, 64⟩) .nil)) 0 ⟨477, 23, 477, 65⟩) (.cons (.tup (.cons (.str [115, 101, 113] 0 ⟨477, 68, 477, 73⟩) (.cons (.tup (.cons (.var 3 "_law_a" ⟨477, 76, 477, 82⟩) (.cons (.var 5 "_law_call" ⟨477, 84, 477, 93⟩) .nil)) 0 ⟨477, 75, 477, 94⟩) .nil)) 0 ⟨477, 67, 477, 95⟩) (.cons (.lst false (.cons (.var 0 "_law_one" ⟨477, 98, 477, 106⟩) .nil) ⟨477, 97, 477, 107⟩) (.cons (.bl true 0 ⟨477, 109, 477, 113⟩) .nil)))) 0 ⟨477, 22, 477, 114⟩) ⟨477, 4, 477, 21⟩ ⟨477, 4, 477, 115⟩) ⟨477, 4, 477, 115⟩
def s5__law_calls : S :=
  .expr (.app (.var 6 "_law_found" ⟨478, 4, 478, 14⟩) (.tup (.cons (.tup (.cons (.str [119, 104, 105, 108, 101] 0 ⟨478, 24, 478, 31⟩) (.cons (.var 3 "_law_a" ⟨478, 33, 478, 39⟩) (.cons (.tup (.cons (.str [115, 101, 113] 0 ⟨478, 42, 478, 47⟩) (.cons (.tup (.cons (.var 4 "_law_b" ⟨478, 50, 478, 56⟩) (.cons (.tup (.cons (.str [114, 101, 116, 117, 114, 110] 0 ⟨478, 59, 478, 67⟩) (.cons (.var 2 "_law_n" ⟨478, 69, 478, 75⟩) .nil)) 0 ⟨478, 58, 478, 76⟩) .nil)) 0 ⟨478, 49, 478, 77⟩) .nil)) 0 ⟨478, 41, 478, 78⟩) .nil))) 0 ⟨478, 23, 478, 79⟩) (.cons (.var 5 "_law_call" ⟨478, 81, 478, 90⟩) (.cons (.lst false (.cons (.int 0 0 ⟨478, 93, 478, 94⟩) (.cons (.int 0 0 ⟨478, 96, 478, 97⟩) .nil)) ⟨478, 92, 478, 98⟩) (.cons (.bl false 0 ⟨478, 100, 478, 105⟩) .nil)))) 0 ⟨478, 22, 478, 106⟩) ⟨478, 4, 478, 21⟩ ⟨478, 4, 478, 107⟩) ⟨478, 4, 478, 107⟩
def s6__law_calls : S :=
  .expr (.app (.var 6 "_law_found" ⟨479, 4, 479, 14⟩) (.tup (.cons (.tup (.cons (.str [119, 104, 105, 108, 101] 0 ⟨479, 24, 479, 31⟩) (.cons (.var 3 "_law_a" ⟨479, 33, 479, 39⟩) (.cons (.tup (.cons (.str [115, 101, 113] 0 ⟨479, 42, 479, 47⟩) (.cons (.tup (.cons (.var 4 "_law_b" ⟨479, 50, 479, 56⟩) (.cons (.tup (.cons (.str [114, 101, 116, 117, 114, 110] 0 ⟨479, 59, 479, 67⟩) (.cons (.int 0 0 ⟨479, 69, 479, 70⟩) .nil)) 0 ⟨479, 58, 479, 71⟩) .nil)) 0 ⟨479, 49, 479, 72⟩) .nil)) 0 ⟨479, 41, 479, 73⟩) .nil))) 0 ⟨479, 23, 479, 74⟩) (.cons (.var 5 "_law_call" ⟨479, 76, 479, 85⟩) (.cons (.lst false (.cons (.int 0 0 ⟨479, 88, 479, 89⟩) (.cons (.var 0 "_law_one" ⟨479, 91, 479, 99⟩) .nil)) ⟨479, 87, 479, 100⟩) (.cons (.bl true 0 ⟨479, 102, 479, 106⟩) .nil)))) 0 ⟨479, 22, 479, 107⟩) ⟨479, 4, 479, 21⟩ ⟨479, 4, 479, 108⟩) ⟨479, 4, 479, 108⟩
def s7__law_calls : S :=
  .expr (.app (.var 6 "_law_found" ⟨480, 4, 480, 14⟩) (.tup (.cons (.tup (.cons (.str [105, 102] 0 ⟨480, 24, 480, 28⟩) (.cons (.tup (.cons (.str [114, 101, 116, 117, 114, 110] 0 ⟨480, 31, 480, 39⟩) (.cons (.int 0 0 ⟨480, 41, 480, 42⟩) .nil)) 0 ⟨480, 30, 480, 43⟩) (.cons (.var 3 "_law_a" ⟨480, 45, 480, 51⟩) (.cons (.var 4 "_law_b" ⟨480, 53, 480, 59⟩) .nil)))) 0 ⟨480, 23, 480, 60⟩) (.cons (.var 5 "_law_call" ⟨480, 62, 480, 71⟩) (.cons (.lst false .nil ⟨480, 73, 480, 75⟩) (.cons (.bl true 0 ⟨480, 77, 480, 81⟩) .nil)))) 0 ⟨480, 22, 480, 82⟩) ⟨480, 4, 480, 21⟩ ⟨480, 4, 480, 83⟩) ⟨480, 4, 480, 83⟩
def s8__law_calls : S :=
  .expr (.app (.var 6 "_law_found" ⟨481, 4, 481, 14⟩) (.tup (.cons (.tup (.cons (.str [119, 104, 105, 108, 101] 0 ⟨481, 24, 481, 31⟩) (.cons (.tup (.cons (.str [115, 101, 113] 0 ⟨481, 34, 481, 39⟩) (.cons (.tup (.cons (.var 3 "_law_a" ⟨481, 42, 481, 48⟩) (.cons (.tup (.cons (.str [114, 101, 116, 117, 114, 110] 0 ⟨481, 51, 481, 59⟩) (.cons (.non 0 ⟨481, 61, 481, 65⟩) .nil)) 0 ⟨481, 50, 481, 66⟩) .nil)) 0 ⟨481, 41, 481, 67⟩) .nil)) 0 ⟨481, 33, 481, 68⟩) (.cons (.var 4 "_law_b" ⟨481, 70, 481, 76⟩) .nil))) 0 ⟨481, 23, 481, 77⟩) (.cons (.var 5 "_law_call" ⟨481, 79, 481, 88⟩) (.cons (.lst false (.cons (.var 0 "_law_one" ⟨481, 91, 481, 99⟩) .nil) ⟨481, 90, 481, 100⟩) (.cons (.bl false 0 ⟨481, 102, 481, 107⟩) .nil)))) 0 ⟨481, 22, 481, 108⟩) ⟨481, 4, 481, 21⟩ ⟨481, 4, 481, 109⟩) ⟨481, 4, 481, 109⟩
def s9__law_calls : S :=
  .expr (.app (.var 6 "_law_found" ⟨482, 4, 482, 14⟩) (.tup (.cons (.tup (.cons (.str [115, 101, 113] 0 ⟨482, 24, 482, 29⟩) (.cons (.tup (.cons (.tup (.cons (.str [110, 111, 116] 0 ⟨482, 33, 482, 38⟩) (.cons (.tup (.cons (.str [114, 101, 116, 117, 114, 110] 0 ⟨482, 41, 482, 49⟩) (.cons (.var 2 "_law_n" ⟨482, 51, 482, 57⟩) .nil)) 0 ⟨482, 40, 482, 58⟩) .nil)) 0 ⟨482, 32, 482, 59⟩) (.cons (.var 3 "_law_a" ⟨482, 61, 482, 67⟩) .nil)) 0 ⟨482, 31, 482, 68⟩) .nil)) 0 ⟨482, 23, 482, 69⟩) (.cons (.tup (.cons (.str [110, 111, 116] 0 ⟨482, 72, 482, 77⟩) (.cons (.var 5 "_law_call" ⟨482, 79, 482, 88⟩) .nil)) 0 ⟨482, 71, 482, 89⟩) (.cons (.lst false .nil ⟨482, 91, 482, 93⟩) (.cons (.bl true 0 ⟨482, 95, 482, 99⟩) .nil)))) 0 ⟨482, 22, 482, 100⟩) ⟨482, 4, 482, 21⟩ ⟨482, 4, 482, 101⟩) ⟨482, 4, 482, 101⟩
def s10__law_calls : S :=
  .expr (.app (.var 6 "_law_found" ⟨483, 4, 483, 14⟩) (.tup (.cons (.tup (.cons (.str [97, 110, 100] 0 ⟨483, 24, 483, 29⟩) (.cons (.var 3 "_law_a" ⟨483, 31, 483, 37⟩) (.cons (.var 4 "_law_b" ⟨483, 39, 483, 45⟩) .nil))) 0 ⟨483, 23, 483, 46⟩) (.cons (.tup (.cons (.str [115, 101, 113] 0 ⟨483, 49, 483, 54⟩) (.cons (.tup (.cons (.tup (.cons (.str [111, 112, 116, 105, 111, 110] 0 ⟨483, 58, 483, 66⟩) (.cons (.str [102, 97, 105, 108] 0 ⟨483, 68, 483, 74⟩) (.cons (.bl true 0 ⟨483, 76, 483, 80⟩) .nil))) 0 ⟨483, 57, 483, 81⟩) (.cons (.var 5 "_law_call" ⟨483, 83, 483, 92⟩) .nil)) 0 ⟨483, 56, 483, 93⟩) .nil)) 0 ⟨483, 48, 483, 94⟩) (.cons (.lst false (.cons (.var 0 "_law_one" ⟨483, 97, 483, 105⟩) .nil) ⟨483, 96, 483, 106⟩) (.cons (.bl false 0 ⟨483, 108, 483, 113⟩) .nil)))) 0 ⟨483, 22, 483, 114⟩) ⟨483, 4, 483, 21⟩ ⟨483, 4, 483, 115⟩) ⟨483, 4, 483, 115⟩
def s11__law_calls : S :=
  .expr (.app (.var 6 "_law_found" ⟨484, 4, 484, 14⟩) (.tup (.cons (.tup (.cons (.str [116, 105, 109, 101, 115] 0 ⟨484, 24, 484, 31⟩) (.cons (.int 5 0 ⟨484, 33, 484, 34⟩) (.cons (.tup (.cons (.str [111, 114] 0 ⟨484, 37, 484, 41⟩) (.cons (.var 3 "_law_a" ⟨484, 43, 484, 49⟩) (.cons (.tup (.cons (.str [114, 101, 116, 117, 114, 110] 0 ⟨484, 52, 484, 60⟩) (.cons (.int 0 0 ⟨484, 62, 484, 63⟩) .nil)) 0 ⟨484, 51, 484, 64⟩) .nil))) 0 ⟨484, 36, 484, 65⟩) .nil))) 0 ⟨484, 23, 484, 66⟩) (.cons (.var 5 "_law_call" ⟨484, 68, 484, 77⟩) (.cons (.lst false (.cons (.int 0 0 ⟨484, 80, 484, 81⟩) (.cons (.int 0 0 ⟨484, 83, 484, 84⟩) (.cons (.var 1 "_law_other" ⟨484, 86, 484, 96⟩) .nil))) ⟨484, 79, 484, 97⟩) (.cons (.bl true 0 ⟨484, 99, 484, 103⟩) .nil)))) 0 ⟨484, 22, 484, 104⟩) ⟨484, 4, 484, 21⟩ ⟨484, 4, 484, 105⟩) ⟨484, 4, 484, 105⟩
def s12__law_calls : S :=
  .ret (.var 6 "_law_found" ⟨485, 11, 485, 21⟩) ⟨485, 4, 485, 21⟩
def b__law_calls : Ss :=
  (.cons s1__law_calls
  (.cons s2__law_calls
  (.cons s3__law_calls
  (.cons s4__law_calls
  (.cons s5__law_calls
  (.cons s6__law_calls
  (.cons s7__law_calls
  (.cons s8__law_calls
  (.cons s9__law_calls
  (.cons s10__law_calls
  (.cons s11__law_calls
  (.cons s12__law_calls
  .nil))))))))))))
def f__law_calls : Fn := ⟨["_law_one", "_law_other", "_law_n"], ["_law_one", "_law_other", "_law_n", "_law_a", "_law_b", "_law_call", "_law_found"], b__law_calls⟩
def d__law_calls : Df := ⟨("_law_calls", none), "_law_calls", "_law_calls", top 52, f__law_calls⟩
def s1__law_ended : S :=
  .unp (.cons (.nm 3 "_law_a" ⟨487, 4, 487, 10⟩) (.cons (.nm 4 "_law_b" ⟨487, 12, 487, 18⟩) (.cons (.nm 5 "_law_c" ⟨487, 20, 487, 26⟩) (.cons (.nm 6 "_law_fail" ⟨487, 28, 487, 37⟩) .nil)))) 0 ⟨487, 4, 487, 37⟩ (.tup (.cons (.tup (.cons (.str [114, 117, 110] 0 ⟨487, 42, 487, 47⟩) (.cons (.str [97] 0 ⟨487, 49, 487, 52⟩) .nil)) 0 ⟨487, 41, 487, 53⟩) (.cons (.tup (.cons (.str [114, 117, 110] 0 ⟨487, 56, 487, 61⟩) (.cons (.str [98] 0 ⟨487, 63, 487, 66⟩) .nil)) 0 ⟨487, 55, 487, 67⟩) (.cons (.tup (.cons (.str [114, 117, 110] 0 ⟨487, 70, 487, 75⟩) (.cons (.str [99] 0 ⟨487, 77, 487, 80⟩) .nil)) 0 ⟨487, 69, 487, 81⟩) (.cons (.tup (.cons (.str [111, 112, 116, 105, 111, 110] 0 ⟨487, 84, 487, 92⟩) (.cons (.str [102, 97, 105, 108] 0 ⟨487, 94, 487, 100⟩) (.cons (.bl true 0 ⟨487, 102, 487, 106⟩) .nil))) 0 ⟨487, 83, 487, 107⟩) .nil)))) 0 ⟨487, 40, 487, 108⟩) ⟨487, 4, 487, 108⟩
def s2__law_ended : S :=
  .par 7 8 "_law_leave" "_law_both" ⟨488, 4, 488, 14⟩ ⟨488, 16, 488, 25⟩ ⟨488, 4, 488, 25⟩ 0 (.tup (.cons (.tup (.cons (.str [102] 0 ⟨488, 31, 488, 34⟩) (.cons (.tup (.cons (.str [101, 120, 105, 116] 0 ⟨488, 37, 488, 43⟩) (.cons (.non 0 ⟨488, 45, 488, 49⟩) .nil)) 0 ⟨488, 36, 488, 50⟩) .nil)) 0 ⟨488, 30, 488, 51⟩) .nil) 0 ⟨488, 29, 488, 53⟩) (.tup (.cons (.tup (.cons (.str [102] 0 ⟨488, 57, 488, 60⟩) (.cons (.tup (.cons (.str [97, 110, 100] 0 ⟨488, 63, 488, 68⟩) (.cons (.var 3 "_law_a" ⟨488, 70, 488, 76⟩) (.cons (.var 4 "_law_b" ⟨488, 78, 488, 84⟩) .nil))) 0 ⟨488, 62, 488, 85⟩) .nil)) 0 ⟨488, 56, 488, 86⟩) .nil) 0 ⟨488, 55, 488, 88⟩) 0 ⟨488, 28, 488, 89⟩ ⟨488, 4, 488, 89⟩
def s3__law_ended : S :=
  .set 9 "_law_deep" ⟨489, 4, 489, 13⟩ (.tup (.cons (.tup (.cons (.str [102] 0 ⟨489, 18, 489, 21⟩) (.cons (.tup (.cons (.str [116, 105, 109, 101, 115] 0 ⟨489, 24, 489, 31⟩) (.cons (.int 2 0 ⟨489, 33, 489, 34⟩) (.cons (.tup (.cons (.str [101, 120, 105, 116] 0 ⟨489, 37, 489, 43⟩) (.cons (.var 2 "_law_n" ⟨489, 45, 489, 51⟩) .nil)) 0 ⟨489, 36, 489, 52⟩) .nil))) 0 ⟨489, 23, 489, 53⟩) .nil)) 0 ⟨489, 17, 489, 54⟩) (.cons (.tup (.cons (.str [103] 0 ⟨489, 57, 489, 60⟩) (.cons (.tup (.cons (.str [119, 104, 105, 108, 101] 0 ⟨489, 63, 489, 70⟩) (.cons (.var 3 "_law_a" ⟨489, 72, 489, 78⟩) (.cons (.tup (.cons (.str [99, 97, 108, 108] 0 ⟨489, 81, 489, 87⟩) (.cons (.str [102] 0 ⟨489, 89, 489, 92⟩) .nil)) 0 ⟨489, 80, 489, 93⟩) .nil))) 0 ⟨489, 62, 489, 94⟩) .nil)) 0 ⟨489, 56, 489, 95⟩) .nil)) 0 ⟨489, 16, 489, 96⟩) ⟨489, 4, 489, 96⟩
def s4__law_ended : S :=
  .set 10 "_law_found" ⟨490, 4, 490, 14⟩ (.lst true (.cons (.tup (.cons (.tup (.cons (.var 7 "_law_leave" ⟨490, 20, 490, 30⟩) (.cons (.tup (.cons (.str [115, 101, 113] 0 ⟨490, 33, 490, 38⟩) (.cons (.tup (.cons (.var 3 "_law_a" ⟨490, 41, 490, 47⟩) (.cons (.tup (.cons (.str [105, 102] 0 ⟨490, 50, 490, 54⟩) (.cons (.tup (.cons (.str [99, 97, 108, 108] 0 ⟨490, 57, 490, 63⟩) (.cons (.str [102] 0 ⟨490, 65, 490, 68⟩) .nil)) 0 ⟨490, 56, 490, 69⟩) (.cons (.var 4 "_law_b" ⟨490, 71, 490, 77⟩) (.cons (.var 5 "_law_c" ⟨490, 79, 490, 85⟩) .nil)))) 0 ⟨490, 49, 490, 86⟩) .nil)) 0 ⟨490, 40, 490, 87⟩) .nil)) 0 ⟨490, 32, 490, 88⟩) .nil)) 0 ⟨490, 19, 490, 89⟩) (.cons (.lst false (.cons (.var 0 "_law_one" ⟨490, 92, 490, 100⟩) .nil) ⟨490, 91, 490, 101⟩) (.cons (.var 0 "_law_one" ⟨490, 103, 490, 111⟩) .nil))) 0 ⟨490, 18, 490, 112⟩) .nil) ⟨490, 17, 490, 113⟩) ⟨490, 4, 490, 113⟩
def s5__law_ended : S :=
  .expr (.app (.var 10 "_law_found" ⟨491, 4, 491, 14⟩) (.tup (.cons (.tup (.cons (.var 8 "_law_both" ⟨491, 24, 491, 33⟩) (.cons (.tup (.cons (.str [115, 101, 113] 0 ⟨491, 36, 491, 41⟩) (.cons (.tup (.cons (.var 6 "_law_fail" ⟨491, 44, 491, 53⟩) (.cons (.tup (.cons (.str [99, 97, 108, 108] 0 ⟨491, 56, 491, 62⟩) (.cons (.str [102] 0 ⟨491, 64, 491, 67⟩) .nil)) 0 ⟨491, 55, 491, 68⟩) (.cons (.var 5 "_law_c" ⟨491, 70, 491, 76⟩) .nil))) 0 ⟨491, 43, 491, 77⟩) .nil)) 0 ⟨491, 35, 491, 78⟩) .nil)) 0 ⟨491, 23, 491, 79⟩) (.cons (.lst false (.cons (.var 0 "_law_one" ⟨491, 82, 491, 90⟩) .nil) ⟨491, 81, 491, 91⟩) (.cons (.var 0 "_law_one" ⟨491, 93, 491, 101⟩) .nil))) 0 ⟨491, 22, 491, 102⟩) ⟨491, 4, 491, 21⟩ ⟨491, 4, 491, 103⟩) ⟨491, 4, 491, 103⟩
def s6__law_ended : S :=
  .expr (.app (.var 10 "_law_found" ⟨492, 4, 492, 14⟩) (.tup (.cons (.tup (.cons (.var 8 "_law_both" ⟨492, 24, 492, 33⟩) (.cons (.tup (.cons (.str [115, 101, 113] 0 ⟨492, 36, 492, 41⟩) (.cons (.tup (.cons (.var 6 "_law_fail" ⟨492, 44, 492, 53⟩) (.cons (.tup (.cons (.str [97, 110, 100] 0 ⟨492, 56, 492, 61⟩) (.cons (.tup (.cons (.str [99, 97, 108, 108] 0 ⟨492, 64, 492, 70⟩) (.cons (.str [102] 0 ⟨492, 72, 492, 75⟩) .nil)) 0 ⟨492, 63, 492, 76⟩) (.cons (.var 4 "_law_b" ⟨492, 78, 492, 84⟩) .nil))) 0 ⟨492, 55, 492, 85⟩) (.cons (.var 5 "_law_c" ⟨492, 87, 492, 93⟩) .nil))) 0 ⟨492, 43, 492, 94⟩) .nil)) 0 ⟨492, 35, 492, 95⟩) .nil)) 0 ⟨492, 23, 492, 96⟩) (.cons (.lst false (.cons (.int 0 0 ⟨492, 99, 492, 100⟩) (.cons (.int 0 0 ⟨492, 102, 492, 103⟩) (.cons (.int 0 0 ⟨492, 105, 492, 106⟩) (.cons (.var 1 "_law_other" ⟨492, 108, 492, 118⟩) .nil)))) ⟨492, 98, 492, 119⟩) (.cons (.var 1 "_law_other" ⟨492, 121, 492, 131⟩) .nil))) 0 ⟨492, 22, 492, 132⟩) ⟨492, 4, 492, 21⟩ ⟨492, 4, 492, 133⟩) ⟨492, 4, 492, 133⟩
def s7__law_ended : S :=
  .expr (.app (.var 10 "_law_found" ⟨493, 4, 493, 14⟩) (.tup (.cons (.tup (.cons (.var 9 "_law_deep" ⟨493, 24, 493, 33⟩) (.cons (.tup (.cons (.str [115, 101, 113] 0 ⟨493, 36, 493, 41⟩) (.cons (.tup (.cons (.tup (.cons (.str [99, 97, 108, 108] 0 ⟨493, 45, 493, 51⟩) (.cons (.str [103] 0 ⟨493, 53, 493, 56⟩) .nil)) 0 ⟨493, 44, 493, 57⟩) (.cons (.var 4 "_law_b" ⟨493, 59, 493, 65⟩) .nil)) 0 ⟨493, 43, 493, 66⟩) .nil)) 0 ⟨493, 35, 493, 67⟩) .nil)) 0 ⟨493, 23, 493, 68⟩) (.cons (.lst false (.cons (.int 0 0 ⟨493, 71, 493, 72⟩) .nil) ⟨493, 70, 493, 73⟩) (.cons (.var 2 "_law_n" ⟨493, 75, 493, 81⟩) .nil))) 0 ⟨493, 22, 493, 82⟩) ⟨493, 4, 493, 21⟩ ⟨493, 4, 493, 83⟩) ⟨493, 4, 493, 83⟩
def s8__law_ended : S :=
  .expr (.app (.var 10 "_law_found" ⟨494, 4, 494, 14⟩) (.tup (.cons (.tup (.cons (.var 9 "_law_deep" ⟨494, 24, 494, 33⟩) (.cons (.tup (.cons (.str [110, 111, 116] 0 ⟨494, 36, 494, 41⟩) (.cons (.tup (.cons (.str [99, 97, 108, 108] 0 ⟨494, 44, 494, 50⟩) (.cons (.str [103] 0 ⟨494, 52, 494, 55⟩) .nil)) 0 ⟨494, 43, 494, 56⟩) .nil)) 0 ⟨494, 35, 494, 57⟩) .nil)) 0 ⟨494, 23, 494, 58⟩) (.cons (.lst false (.cons (.var 0 "_law_one" ⟨494, 61, 494, 69⟩) .nil) ⟨494, 60, 494, 70⟩) (.cons (.int 1 0 ⟨494, 72, 494, 73⟩) .nil))) 0 ⟨494, 22, 494, 74⟩) ⟨494, 4, 494, 21⟩ ⟨494, 4, 494, 75⟩) ⟨494, 4, 494, 75⟩
def s9__law_ended : S :=
  .set 11 "_law_tree" ⟨495, 4, 495, 13⟩ (.tup (.cons (.str [115, 101, 113] 0 ⟨495, 17, 495, 22⟩) (.cons (.tup (.cons (.var 6 "_law_fail" ⟨495, 25, 495, 34⟩) (.cons (.tup (.cons (.str [119, 104, 105, 108, 101] 0 ⟨495, 37, 495, 44⟩) (.cons (.var 3 "_law_a" ⟨495, 46, 495, 52⟩) (.cons (.tup (.cons (.str [110, 111, 116] 0 ⟨495, 55, 495, 60⟩) (.cons (.var 4 "_law_b" ⟨495, 62, 495, 68⟩) .nil)) 0 ⟨495, 54, 495, 69⟩) .nil))) 0 ⟨495, 36, 495, 70⟩) (.cons (.tup (.cons (.str [117, 110, 116, 105, 108] 0 ⟨495, 73, 495, 80⟩) (.cons (.var 5 "_law_c" ⟨495, 82, 495, 88⟩) (.cons (.tup (.cons (.str [115, 116, 97, 116, 117, 115] 0 ⟨495, 91, 495, 99⟩) (.cons (.int 0 0 ⟨495, 101, 495, 102⟩) .nil)) 0 ⟨495, 90, 495, 103⟩) .nil))) 0 ⟨495, 72, 495, 104⟩) .nil))) 0 ⟨495, 24, 495, 105⟩) .nil)) 0 ⟨495, 16, 495, 106⟩) ⟨495, 4, 495, 106⟩
def s10__law_ended : S :=
  .expr (.app (.var 10 "_law_found" ⟨496, 4, 496, 14⟩) (.tup (.cons (.tup (.cons (.tup .nil 0 ⟨496, 24, 496, 26⟩) (.cons (.var 11 "_law_tree" ⟨496, 28, 496, 37⟩) .nil)) 0 ⟨496, 23, 496, 38⟩) (.cons (.lst false (.cons (.int 0 0 ⟨496, 41, 496, 42⟩) (.cons (.int 0 0 ⟨496, 44, 496, 45⟩) (.cons (.int 0 0 ⟨496, 47, 496, 48⟩) (.cons (.var 0 "_law_one" ⟨496, 50, 496, 58⟩) (.cons (.var 0 "_law_one" ⟨496, 60, 496, 68⟩) (.cons (.int 0 0 ⟨496, 70, 496, 71⟩) .nil)))))) ⟨496, 40, 496, 72⟩) (.cons (.int 0 0 ⟨496, 74, 496, 75⟩) .nil))) 0 ⟨496, 22, 496, 76⟩) ⟨496, 4, 496, 21⟩ ⟨496, 4, 496, 77⟩) ⟨496, 4, 496, 77⟩
def s11__law_ended : S :=
  .expr (.app (.var 10 "_law_found" ⟨497, 4, 497, 14⟩) (.tup (.cons (.tup (.cons (.tup .nil 0 ⟨497, 24, 497, 26⟩) (.cons (.tup (.cons (.str [115, 101, 113] 0 ⟨497, 29, 497, 34⟩) (.cons (.tup (.cons (.var 6 "_law_fail" ⟨497, 37, 497, 46⟩) (.cons (.tup (.cons (.str [117, 110, 116, 105, 108] 0 ⟨497, 49, 497, 56⟩) (.cons (.var 3 "_law_a" ⟨497, 58, 497, 64⟩) (.cons (.tup (.cons (.str [119, 104, 105, 108, 101] 0 ⟨497, 67, 497, 74⟩) (.cons (.var 4 "_law_b" ⟨497, 76, 497, 82⟩) (.cons (.var 5 "_law_c" ⟨497, 84, 497, 90⟩) .nil))) 0 ⟨497, 66, 497, 91⟩) .nil))) 0 ⟨497, 48, 497, 92⟩) .nil)) 0 ⟨497, 36, 497, 93⟩) .nil)) 0 ⟨497, 28, 497, 94⟩) .nil)) 0 ⟨497, 23, 497, 95⟩) (.cons (.lst false (.cons (.var 0 "_law_one" ⟨497, 98, 497, 106⟩) (.cons (.int 0 0 ⟨497, 108, 497, 109⟩) (.cons (.var 1 "_law_other" ⟨497, 111, 497, 121⟩) .nil))) ⟨497, 97, 497, 122⟩) (.cons (.var 1 "_law_other" ⟨497, 124, 497, 134⟩) .nil))) 0 ⟨497, 22, 497, 135⟩) ⟨497, 4, 497, 21⟩ ⟨497, 4, 497, 136⟩) ⟨497, 4, 497, 136⟩
def s12__law_ended : S :=
  .expr (.app (.var 10 "_law_found" ⟨498, 4, 498, 14⟩) (.tup (.cons (.tup (.cons (.tup .nil 0 ⟨498, 24, 498, 26⟩) (.cons (.tup (.cons (.str [119, 104, 105, 108, 101] 0 ⟨498, 29, 498, 36⟩) (.cons (.var 3 "_law_a" ⟨498, 38, 498, 44⟩) (.cons (.tup (.cons (.str [111, 114] 0 ⟨498, 47, 498, 51⟩) (.cons (.var 4 "_law_b" ⟨498, 53, 498, 59⟩) (.cons (.tup (.cons (.str [101, 120, 105, 116] 0 ⟨498, 62, 498, 68⟩) (.cons (.var 2 "_law_n" ⟨498, 70, 498, 76⟩) .nil)) 0 ⟨498, 61, 498, 77⟩) .nil))) 0 ⟨498, 46, 498, 78⟩) .nil))) 0 ⟨498, 28, 498, 79⟩) .nil)) 0 ⟨498, 23, 498, 80⟩) (.cons (.lst false (.cons (.int 0 0 ⟨498, 83, 498, 84⟩) (.cons (.int 0 0 ⟨498, 86, 498, 87⟩) (.cons (.int 0 0 ⟨498, 89, 498, 90⟩) (.cons (.var 0 "_law_one" ⟨498, 92, 498, 100⟩) .nil)))) ⟨498, 82, 498, 101⟩) (.cons (.var 2 "_law_n" ⟨498, 103, 498, 109⟩) .nil))) 0 ⟨498, 22, 498, 110⟩) ⟨498, 4, 498, 21⟩ ⟨498, 4, 498, 111⟩) ⟨498, 4, 498, 111⟩
def s13__law_ended : S :=
  .ret (.var 10 "_law_found" ⟨499, 11, 499, 21⟩) ⟨499, 4, 499, 21⟩
def b__law_ended : Ss :=
  (.cons s1__law_ended
  (.cons s2__law_ended
  (.cons s3__law_ended
  (.cons s4__law_ended
  (.cons s5__law_ended
  (.cons s6__law_ended
  (.cons s7__law_ended
  (.cons s8__law_ended
  (.cons s9__law_ended
  (.cons s10__law_ended
  (.cons s11__law_ended
  (.cons s12__law_ended
  (.cons s13__law_ended
  .nil)))))))))))))
def f__law_ended : Fn := ⟨["_law_one", "_law_other", "_law_n"], ["_law_one", "_law_other", "_law_n", "_law_a", "_law_b", "_law_c", "_law_fail", "_law_leave", "_law_both", "_law_deep", "_law_found", "_law_tree"], b__law_ended⟩
def d__law_ended : Df := ⟨("_law_ended", none), "_law_ended", "_law_ended", top 53, f__law_ended⟩
def s1_law : S :=
  .ret (.bl false 0 ⟨507, 23, 507, 28⟩) ⟨507, 16, 507, 28⟩
def s2_law : S :=
  .ife (.cmp .NotEq (.ix (.call 48 "run" ⟨506, 15, 506, 18⟩ (.cons (.tup (.cons (.tup .nil 0 ⟨506, 20, 506, 22⟩) (.cons (.call 53 "_law_shown" ⟨506, 24, 506, 34⟩ (.cons (.var 6 "_law_tree" ⟨506, 35, 506, 44⟩) .nil) ⟨506, 24, 506, 45⟩) .nil)) 0 ⟨506, 19, 506, 46⟩) (.cons (.var 7 "_law_given" ⟨506, 48, 506, 58⟩) .nil)) ⟨506, 15, 506, 59⟩) (.int 1 0 ⟨506, 60, 506, 61⟩) ⟨506, 15, 506, 62⟩) (.tup (.cons (.str [97, 115, 107, 115] 0 ⟨506, 67, 506, 73⟩) (.cons (.ix (.lst false (.cons (.str [98, 97, 100] 0 ⟨506, 76, 506, 81⟩) (.cons (.str [119, 101, 108, 108] 0 ⟨506, 83, 506, 89⟩) .nil)) ⟨506, 75, 506, 90⟩) (.blt .int false ⟨506, 91, 506, 94⟩ (.var 8 "_law_well" ⟨506, 95, 506, 104⟩) ⟨506, 91, 506, 105⟩) ⟨506, 75, 506, 106⟩) .nil)) 0 ⟨506, 66, 506, 107⟩) ⟨506, 15, 506, 107⟩) (.cons s1_law
  .nil) .nil ⟨506, 12, 507, 28⟩
def b3_law : Ss :=
  (.cons s2_law
  .nil)
def l4_law : S :=
  .for_ (.tp (.cons (.nm 6 "_law_tree" ⟨505, 12, 505, 21⟩) (.cons (.nm 7 "_law_given" ⟨505, 23, 505, 33⟩) (.cons (.nm 8 "_law_well" ⟨505, 35, 505, 44⟩) .nil))) 0 ⟨505, 12, 505, 44⟩) (.seq (.call 54 "_law_loops" ⟨505, 48, 505, 58⟩ (.cons (.var 3 "_law_one" ⟨505, 59, 505, 67⟩) (.cons (.var 4 "_law_other" ⟨505, 69, 505, 79⟩) (.cons (.var 5 "_law_n" ⟨505, 81, 505, 87⟩) .nil))) ⟨505, 48, 505, 88⟩)) b3_law ⟨505, 8, 507, 28⟩
def s5_law : S :=
  .ret (.bl false 0 ⟨510, 23, 510, 28⟩) ⟨510, 16, 510, 28⟩
def s6_law : S :=
  .ife (.cmp .NotEq (.ix (.call 48 "run" ⟨509, 15, 509, 18⟩ (.cons (.tup (.cons (.tup (.cons (.tup (.cons (.str [102] 0 ⟨509, 22, 509, 25⟩) (.cons (.var 9 "_law_body" ⟨509, 27, 509, 36⟩) .nil)) 0 ⟨509, 21, 509, 37⟩) .nil) 0 ⟨509, 20, 509, 39⟩) (.cons (.call 53 "_law_shown" ⟨509, 41, 509, 51⟩ (.cons (.var 6 "_law_tree" ⟨509, 52, 509, 61⟩) .nil) ⟨509, 41, 509, 62⟩) .nil)) 0 ⟨509, 19, 509, 63⟩) (.cons (.blt .tuple false ⟨509, 65, 509, 70⟩ (.var 7 "_law_given" ⟨509, 71, 509, 81⟩) ⟨509, 65, 509, 82⟩) .nil)) ⟨509, 15, 509, 83⟩) (.int 1 0 ⟨509, 84, 509, 85⟩) ⟨509, 15, 509, 86⟩) (.tup (.cons (.str [97, 115, 107, 115] 0 ⟨509, 91, 509, 97⟩) (.cons (.ix (.lst false (.cons (.str [98, 97, 100] 0 ⟨509, 100, 509, 105⟩) (.cons (.str [119, 101, 108, 108] 0 ⟨509, 107, 509, 113⟩) .nil)) ⟨509, 99, 509, 114⟩) (.blt .int false ⟨509, 115, 509, 118⟩ (.var 8 "_law_well" ⟨509, 119, 509, 128⟩) ⟨509, 115, 509, 129⟩) ⟨509, 99, 509, 130⟩) .nil)) 0 ⟨509, 90, 509, 131⟩) ⟨509, 15, 509, 131⟩) (.cons s5_law
  .nil) .nil ⟨509, 12, 510, 28⟩
def b7_law : Ss :=
  (.cons s6_law
  .nil)
def l8_law : S :=
  .for_ (.tp (.cons (.nm 9 "_law_body" ⟨508, 12, 508, 21⟩) (.cons (.nm 6 "_law_tree" ⟨508, 23, 508, 32⟩) (.cons (.nm 7 "_law_given" ⟨508, 34, 508, 44⟩) (.cons (.nm 8 "_law_well" ⟨508, 46, 508, 55⟩) .nil)))) 0 ⟨508, 12, 508, 55⟩) (.seq (.call 55 "_law_calls" ⟨508, 59, 508, 69⟩ (.cons (.var 3 "_law_one" ⟨508, 70, 508, 78⟩) (.cons (.var 4 "_law_other" ⟨508, 80, 508, 90⟩) (.cons (.var 5 "_law_n" ⟨508, 92, 508, 98⟩) .nil))) ⟨508, 59, 508, 99⟩)) b7_law ⟨508, 8, 510, 28⟩
def s9_law : S :=
  .ret (.bl false 0 ⟨513, 23, 513, 28⟩) ⟨513, 16, 513, 28⟩
def s10_law : S :=
  .ife (.cmp .NotEq (.ix (.call 48 "run" ⟨512, 15, 512, 18⟩ (.cons (.var 10 "_law_plan" ⟨512, 19, 512, 28⟩) (.cons (.bin false .Add (.var 7 "_law_given" ⟨512, 30, 512, 40⟩) (.lst false (.cons (.int 0 0 ⟨512, 44, 512, 45⟩) (.cons (.int 0 0 ⟨512, 47, 512, 48⟩) .nil)) ⟨512, 43, 512, 49⟩) ⟨512, 30, 512, 49⟩) .nil)) ⟨512, 15, 512, 50⟩) (.int 1 0 ⟨512, 51, 512, 52⟩) ⟨512, 15, 512, 53⟩) (.tup (.cons (.str [101, 110, 100, 101, 100] 0 ⟨512, 58, 512, 65⟩) (.cons (.var 11 "_law_status" ⟨512, 67, 512, 78⟩) (.cons (.blt .len false ⟨512, 80, 512, 83⟩ (.var 7 "_law_given" ⟨512, 84, 512, 94⟩) ⟨512, 80, 512, 95⟩) .nil))) 0 ⟨512, 57, 512, 96⟩) ⟨512, 15, 512, 96⟩) (.cons s9_law
  .nil) .nil ⟨512, 12, 513, 28⟩
def b11_law : Ss :=
  (.cons s10_law
  .nil)
def l12_law : S :=
  .for_ (.tp (.cons (.nm 10 "_law_plan" ⟨511, 12, 511, 21⟩) (.cons (.nm 7 "_law_given" ⟨511, 23, 511, 33⟩) (.cons (.nm 11 "_law_status" ⟨511, 35, 511, 46⟩) .nil))) 0 ⟨511, 12, 511, 46⟩) (.seq (.call 56 "_law_ended" ⟨511, 50, 511, 60⟩ (.cons (.var 3 "_law_one" ⟨511, 61, 511, 69⟩) (.cons (.var 4 "_law_other" ⟨511, 71, 511, 81⟩) (.cons (.var 5 "_law_n" ⟨511, 83, 511, 89⟩) .nil))) ⟨511, 50, 511, 90⟩)) b11_law ⟨511, 8, 513, 28⟩
def s13_law : S :=
  .set 2 "_law_source_here" ⟨502, 8, 502, 24⟩ (.call 50 "_law_source" ⟨502, 27, 502, 38⟩ (.cons (.var 1 "_law_cell" ⟨502, 39, 502, 48⟩) .nil) ⟨502, 27, 502, 49⟩) ⟨502, 8, 502, 49⟩
def s14_law : S :=
  .par 3 4 "_law_one" "_law_other" ⟨503, 8, 503, 16⟩ ⟨503, 18, 503, 28⟩ ⟨503, 8, 503, 28⟩ 0 (.bin false .Add (.int 1 0 ⟨503, 32, 503, 33⟩) (.call 51 "_law_take" ⟨503, 36, 503, 45⟩ (.cons (.var 2 "_law_source_here" ⟨503, 46, 503, 62⟩) (.cons (.int 300 0 ⟨503, 64, 503, 67⟩) .nil)) ⟨503, 36, 503, 68⟩) ⟨503, 32, 503, 68⟩) (.bin false .Add (.int 1 0 ⟨503, 70, 503, 71⟩) (.call 51 "_law_take" ⟨503, 74, 503, 83⟩ (.cons (.var 2 "_law_source_here" ⟨503, 84, 503, 100⟩) (.cons (.bin false .Pow (.int 10 0 ⟨503, 102, 503, 104⟩) (.int 9 0 ⟨503, 108, 503, 109⟩) ⟨503, 102, 503, 109⟩) .nil)) ⟨503, 74, 503, 110⟩) ⟨503, 70, 503, 110⟩) 0 ⟨503, 31, 503, 111⟩ ⟨503, 8, 503, 111⟩
def s15_law : S :=
  .set 5 "_law_n" ⟨504, 8, 504, 14⟩ (.bin false .Add (.int 1 0 ⟨504, 17, 504, 18⟩) (.call 51 "_law_take" ⟨504, 21, 504, 30⟩ (.cons (.var 2 "_law_source_here" ⟨504, 31, 504, 47⟩) (.cons (.int 255 0 ⟨504, 49, 504, 52⟩) .nil)) ⟨504, 21, 504, 53⟩) ⟨504, 17, 504, 53⟩) ⟨504, 8, 504, 53⟩
def b16_law : Ss :=
  (.cons s13_law
  (.cons s14_law
  (.cons s15_law
  (.cons l4_law
  (.cons l8_law
  (.cons l12_law
  .nil))))))
def l17_law : S :=
  .for_ (.nm 1 "_law_cell" ⟨501, 8, 501, 17⟩) (.seq (.sl false (.bin false .Add (.var 0 "_law_script" ⟨501, 22, 501, 33⟩) (.lst false (.cons (.int 0 0 ⟨501, 37, 501, 38⟩) .nil) ⟨501, 36, 501, 39⟩) ⟨501, 22, 501, 39⟩) .nil (.cons (.int 4 0 ⟨501, 42, 501, 43⟩) .nil) ⟨501, 41, 501, 43⟩ ⟨501, 21, 501, 44⟩)) b16_law ⟨501, 4, 513, 28⟩
def s18_law : S :=
  .ret (.bl true 0 ⟨514, 11, 514, 15⟩) ⟨514, 4, 514, 15⟩
def b_law : Ss :=
  (.cons l17_law
  (.cons s18_law
  .nil))
def f_law : Fn := ⟨["_law_script"], ["_law_script", "_law_cell", "_law_source_here", "_law_one", "_law_other", "_law_n", "_law_tree", "_law_given", "_law_well", "_law_body", "_law_plan", "_law_status"], b_law⟩
def d_law : Df := ⟨("law", none), "law", "law", top 54, f_law⟩
def x_InvalidProgram : Xc := ⟨"InvalidProgram", 0, ⟨("InvalidProgram", some ("__init__" : Str)), "__init__", "InvalidProgram.__init__", inClass (top 3) 0, ⟨["self", "path"], ["self", "path"], .nil⟩⟩, "path"⟩
def x_InvalidRow : Xc := ⟨"InvalidRow", 1, ⟨("InvalidRow", some ("__init__" : Str)), "__init__", "InvalidRow.__init__", inClass (top 4) 0, ⟨["self", "index"], ["self", "index"], .nil⟩⟩, "index"⟩
def pg : Pg where
  blt := ["all", "any", "bool", "dict", "enumerate", "int", "isinstance", "len", "list", "range", "sorted", "str", "sum", "tuple"]
  glb := [("MAX_TREES", .int 3000), ("MAX_DEPTH", .int 60), ("MAX_FUNCTIONS", .int 20), ("MAX_VARIABLES", .int 40), ("MAX_UNFOLDED", .int 3000), ("MAX_STATUS", .int 255), ("MAX_TIMES", .int 1000), ("MAX_LETTERS", .int 12), ("LETTERS", .str [97, 98, 99, 100, 101, 102, 103, 104, 105, 106, 107, 108, 109, 110, 111, 112, 113, 114, 115, 116, 117, 118, 119, 120, 121, 122]), ("MAX_SILENT", .int 1000), ("MAX_ROW", .int 10000)]
  gtp := [("RESERVED", g_RESERVED), ("LOOPS", g_LOOPS), ("LOOP_FRAMES", g_LOOP_FRAMES)]
  dfs := [d__wall, d_is_integer, d_is_at_least, d_is_between, d_is_name, d_is_number_or_none, d_kids_of, d_is_leaf, d_is_word, d_is_node, d_is_jump, d_Checker___init__, d_Checker_look, d_require_program, d_size_of, d_unfolded_size, d_trees_of, d_variables_of, d_Code___init__, d_ShellData___init__, d_ShellData_twin, d_ShellData_key, d_Player___init__, d_Player_twin, d_Player_tell, d_Player_go_on, d_Player_begin, d_Player_value_of, d_Player_set_data, d_Player_open_tree, d_Player_ask_condition, d_Player_next_round, d_Player_open_shell, d_Player_open_part, d_Player_back, d_Player_back_to_plain, d_Player_back_to_loop, d_Player_leave_loops, d_Player_leave_call, d_Player_exit_status, d_Player_check, d_Player_check_option, d_Player_end_shell, d_Player_finish_shell, d_started, d_require_row, d_played, d_outcome_of, d_run, d__law_mixed, d__law_source, d__law_take, d__law_pick, d__law_shown, d__law_loops, d__law_calls, d__law_ended, d_law]
  cls := [("Checker", some 11), ("Code", some 18), ("ShellData", some 19), ("Player", some 22)]
  flds := ["path", "index", "count", "names", "paths", "trees", "kids", "bodies", "main", "variables", "options", "base", "traps", "is_trapped", "code", "frames", "shells", "last", "asked", "ended", "is_silent", "is_asked_tested", "begun", "coming", "noted", "is_failing"]
  mth := [((0, "look"), 12), ((3, "check"), 40), ((3, "go_on"), 25), ((3, "end_shell"), 42), ((3, "back"), 34), ((3, "begin"), 26), ((3, "value_of"), 27), ((3, "set_data"), 28), ((3, "leave_loops"), 37), ((3, "leave_call"), 38), ((3, "exit_status"), 39), ((3, "open_tree"), 29), ((3, "ask_condition"), 30), ((3, "next_round"), 31), ((3, "open_shell"), 32), ((3, "open_part"), 33), ((3, "back_to_plain"), 35), ((3, "back_to_loop"), 36), ((3, "check_option"), 41), ((3, "finish_shell"), 43), ((3, "tell"), 24)]
  exs := [x_InvalidProgram, x_InvalidRow]
  hcl := []
theorem k__wall : DfOk pg d__wall := ⟨by kernel_rfl, ⟨rfl, rfl, rfl, by decide +kernel, rfl, by decide +kernel, by decide +kernel⟩, by decide +kernel, fun _ _ _ _ _ _ us hl => match us, hl with | [_], _ => rfl⟩
theorem k_is_integer : DfOk pg d_is_integer := ⟨by kernel_rfl, ⟨rfl, rfl, rfl, by decide +kernel, rfl, by decide +kernel, by decide +kernel⟩, by decide +kernel, fun _ _ _ _ _ _ us hl => match us, hl with | [_], _ => rfl⟩
theorem k_is_at_least : DfOk pg d_is_at_least := ⟨by kernel_rfl, ⟨rfl, rfl, rfl, by decide +kernel, rfl, by decide +kernel, by decide +kernel⟩, by decide +kernel, fun _ _ _ _ _ _ us hl => match us, hl with | [_, _], _ => rfl⟩
theorem k_is_between : DfOk pg d_is_between := ⟨by kernel_rfl, ⟨rfl, rfl, rfl, by decide +kernel, rfl, by decide +kernel, by decide +kernel⟩, by decide +kernel, fun _ _ _ _ _ _ us hl => match us, hl with | [_, _, _], _ => rfl⟩
theorem k_is_name : DfOk pg d_is_name := ⟨by kernel_rfl, ⟨rfl, rfl, rfl, by decide +kernel, rfl, by decide +kernel, by decide +kernel⟩, by decide +kernel, fun _ _ _ _ _ _ us hl => match us, hl with | [_], _ => rfl⟩
theorem k_is_number_or_none : DfOk pg d_is_number_or_none := ⟨by kernel_rfl, ⟨rfl, rfl, rfl, by decide +kernel, rfl, by decide +kernel, by decide +kernel⟩, by decide +kernel, fun _ _ _ _ _ _ us hl => match us, hl with | [_], _ => rfl⟩
theorem k_kids_of : DfOk pg d_kids_of := ⟨by kernel_rfl, ⟨rfl, rfl, rfl, by decide +kernel, rfl, by decide +kernel, by decide +kernel⟩, by decide +kernel, fun _ _ _ _ _ _ us hl => match us, hl with | [_], _ => rfl⟩
theorem k_is_leaf : DfOk pg d_is_leaf := ⟨by kernel_rfl, ⟨rfl, rfl, rfl, by decide +kernel, rfl, by decide +kernel, by decide +kernel⟩, by decide +kernel, fun _ _ _ _ _ _ us hl => match us, hl with | [_, _, _, _], _ => rfl⟩
theorem k_is_word : DfOk pg d_is_word := ⟨by kernel_rfl, ⟨rfl, rfl, rfl, by decide +kernel, rfl, by decide +kernel, by decide +kernel⟩, by decide +kernel, fun _ _ _ _ _ _ us hl => match us, hl with | [_, _], _ => rfl⟩
theorem k_is_node : DfOk pg d_is_node := ⟨by kernel_rfl, ⟨rfl, rfl, rfl, by decide +kernel, rfl, by decide +kernel, by decide +kernel⟩, by decide +kernel, fun _ _ _ _ _ _ us hl => match us, hl with | [_, _, _], _ => rfl⟩
theorem k_is_jump : DfOk pg d_is_jump := ⟨by kernel_rfl, ⟨rfl, rfl, rfl, by decide +kernel, rfl, by decide +kernel, by decide +kernel⟩, by decide +kernel, fun _ _ _ _ _ _ us hl => match us, hl with | [_, _, _, _, _], _ => rfl⟩
theorem k_Checker___init__ : DfOk pg d_Checker___init__ := ⟨by kernel_rfl, ⟨rfl, rfl, rfl, by decide +kernel, rfl, by decide +kernel, by decide +kernel⟩, by decide +kernel, fun _ _ _ _ _ _ us hl => match us, hl with | [_], _ => rfl⟩
theorem k_Checker_look : DfOk pg d_Checker_look := ⟨by kernel_rfl, ⟨rfl, rfl, rfl, by decide +kernel, rfl, by decide +kernel, by decide +kernel⟩, by decide +kernel, fun _ _ _ _ _ _ us hl => match us, hl with | [_, _, _, _, _, _], _ => rfl⟩
theorem k_require_program : DfOk pg d_require_program := ⟨by kernel_rfl, ⟨rfl, rfl, rfl, by decide +kernel, rfl, by decide +kernel, by decide +kernel⟩, by decide +kernel, fun _ _ _ _ _ _ us hl => match us, hl with | [_], _ => rfl⟩
theorem k_size_of : DfOk pg d_size_of := ⟨by kernel_rfl, ⟨rfl, rfl, rfl, by decide +kernel, rfl, by decide +kernel, by decide +kernel⟩, by decide +kernel, fun _ _ _ _ _ _ us hl => match us, hl with | [_, _], _ => rfl⟩
theorem k_unfolded_size : DfOk pg d_unfolded_size := ⟨by kernel_rfl, ⟨rfl, rfl, rfl, by decide +kernel, rfl, by decide +kernel, by decide +kernel⟩, by decide +kernel, fun _ _ _ _ _ _ us hl => match us, hl with | [_], _ => rfl⟩
theorem k_trees_of : DfOk pg d_trees_of := ⟨by kernel_rfl, ⟨rfl, rfl, rfl, by decide +kernel, rfl, by decide +kernel, by decide +kernel⟩, by decide +kernel, fun _ _ _ _ _ _ us hl => match us, hl with | [_], _ => rfl⟩
theorem k_variables_of : DfOk pg d_variables_of := ⟨by kernel_rfl, ⟨rfl, rfl, rfl, by decide +kernel, rfl, by decide +kernel, by decide +kernel⟩, by decide +kernel, fun _ _ _ _ _ _ us hl => match us, hl with | [_], _ => rfl⟩
theorem k_Code___init__ : DfOk pg d_Code___init__ := ⟨by kernel_rfl, ⟨rfl, rfl, rfl, by decide +kernel, rfl, by decide +kernel, by decide +kernel⟩, by decide +kernel, fun _ _ _ _ _ _ us hl => match us, hl with | [_, _], _ => rfl⟩
theorem k_ShellData___init__ : DfOk pg d_ShellData___init__ := ⟨by kernel_rfl, ⟨rfl, rfl, rfl, by decide +kernel, rfl, by decide +kernel, by decide +kernel⟩, by decide +kernel, fun _ _ _ _ _ _ us hl => match us, hl with | [_, _, _, _], _ => rfl⟩
theorem k_ShellData_twin : DfOk pg d_ShellData_twin := ⟨by kernel_rfl, ⟨rfl, rfl, rfl, by decide +kernel, rfl, by decide +kernel, by decide +kernel⟩, by decide +kernel, fun _ _ _ _ _ _ us hl => match us, hl with | [_], _ => rfl⟩
theorem k_ShellData_key : DfOk pg d_ShellData_key := ⟨by kernel_rfl, ⟨rfl, rfl, rfl, by decide +kernel, rfl, by decide +kernel, by decide +kernel⟩, by decide +kernel, fun _ _ _ _ _ _ us hl => match us, hl with | [_], _ => rfl⟩
theorem k_Player___init__ : DfOk pg d_Player___init__ := ⟨by kernel_rfl, ⟨rfl, rfl, rfl, by decide +kernel, rfl, by decide +kernel, by decide +kernel⟩, by decide +kernel, fun _ _ _ _ _ _ us hl => match us, hl with | [_, _], _ => rfl⟩
theorem k_Player_twin : DfOk pg d_Player_twin := ⟨by kernel_rfl, ⟨rfl, rfl, rfl, by decide +kernel, rfl, by decide +kernel, by decide +kernel⟩, by decide +kernel, fun _ _ _ _ _ _ us hl => match us, hl with | [_], _ => rfl⟩
theorem k_Player_tell : DfOk pg d_Player_tell := ⟨by kernel_rfl, ⟨rfl, rfl, rfl, by decide +kernel, rfl, by decide +kernel, by decide +kernel⟩, by decide +kernel, fun _ _ _ _ _ _ us hl => match us, hl with | [_, _], _ => rfl⟩
theorem k_Player_go_on : DfOk pg d_Player_go_on := ⟨by kernel_rfl, ⟨rfl, rfl, rfl, by decide +kernel, rfl, by decide +kernel, by decide +kernel⟩, by decide +kernel, fun _ _ _ _ _ _ us hl => match us, hl with | [_], _ => rfl⟩
theorem k_Player_begin : DfOk pg d_Player_begin := ⟨by kernel_rfl, ⟨rfl, rfl, rfl, by decide +kernel, rfl, by decide +kernel, by decide +kernel⟩, by decide +kernel, fun _ _ _ _ _ _ us hl => match us, hl with | [_, _, _, _], _ => rfl⟩
theorem k_Player_value_of : DfOk pg d_Player_value_of := ⟨by kernel_rfl, ⟨rfl, rfl, rfl, by decide +kernel, rfl, by decide +kernel, by decide +kernel⟩, by decide +kernel, fun _ _ _ _ _ _ us hl => match us, hl with | [_, _], _ => rfl⟩
theorem k_Player_set_data : DfOk pg d_Player_set_data := ⟨by kernel_rfl, ⟨rfl, rfl, rfl, by decide +kernel, rfl, by decide +kernel, by decide +kernel⟩, by decide +kernel, fun _ _ _ _ _ _ us hl => match us, hl with | [_, _, _], _ => rfl⟩
theorem k_Player_open_tree : DfOk pg d_Player_open_tree := ⟨by kernel_rfl, ⟨rfl, rfl, rfl, by decide +kernel, rfl, by decide +kernel, by decide +kernel⟩, by decide +kernel, fun _ _ _ _ _ _ us hl => match us, hl with | [_, _, _, _], _ => rfl⟩
theorem k_Player_ask_condition : DfOk pg d_Player_ask_condition := ⟨by kernel_rfl, ⟨rfl, rfl, rfl, by decide +kernel, rfl, by decide +kernel, by decide +kernel⟩, by decide +kernel, fun _ _ _ _ _ _ us hl => match us, hl with | [_, _, _, _], _ => rfl⟩
theorem k_Player_next_round : DfOk pg d_Player_next_round := ⟨by kernel_rfl, ⟨rfl, rfl, rfl, by decide +kernel, rfl, by decide +kernel, by decide +kernel⟩, by decide +kernel, fun _ _ _ _ _ _ us hl => match us, hl with | [_, _, _, _, _], _ => rfl⟩
theorem k_Player_open_shell : DfOk pg d_Player_open_shell := ⟨by kernel_rfl, ⟨rfl, rfl, rfl, by decide +kernel, rfl, by decide +kernel, by decide +kernel⟩, by decide +kernel, fun _ _ _ _ _ _ us hl => match us, hl with | [_, _, _], _ => rfl⟩
theorem k_Player_open_part : DfOk pg d_Player_open_part := ⟨by kernel_rfl, ⟨rfl, rfl, rfl, by decide +kernel, rfl, by decide +kernel, by decide +kernel⟩, by decide +kernel, fun _ _ _ _ _ _ us hl => match us, hl with | [_, _, _, _, _, _], _ => rfl⟩
theorem k_Player_back : DfOk pg d_Player_back := ⟨by kernel_rfl, ⟨rfl, rfl, rfl, by decide +kernel, rfl, by decide +kernel, by decide +kernel⟩, by decide +kernel, fun _ _ _ _ _ _ us hl => match us, hl with | [_], _ => rfl⟩
theorem k_Player_back_to_plain : DfOk pg d_Player_back_to_plain := ⟨by kernel_rfl, ⟨rfl, rfl, rfl, by decide +kernel, rfl, by decide +kernel, by decide +kernel⟩, by decide +kernel, fun _ _ _ _ _ _ us hl => match us, hl with | [_, _], _ => rfl⟩
theorem k_Player_back_to_loop : DfOk pg d_Player_back_to_loop := ⟨by kernel_rfl, ⟨rfl, rfl, rfl, by decide +kernel, rfl, by decide +kernel, by decide +kernel⟩, by decide +kernel, fun _ _ _ _ _ _ us hl => match us, hl with | [_, _], _ => rfl⟩
theorem k_Player_leave_loops : DfOk pg d_Player_leave_loops := ⟨by kernel_rfl, ⟨rfl, rfl, rfl, by decide +kernel, rfl, by decide +kernel, by decide +kernel⟩, by decide +kernel, fun _ _ _ _ _ _ us hl => match us, hl with | [_, _, _], _ => rfl⟩
theorem k_Player_leave_call : DfOk pg d_Player_leave_call := ⟨by kernel_rfl, ⟨rfl, rfl, rfl, by decide +kernel, rfl, by decide +kernel, by decide +kernel⟩, by decide +kernel, fun _ _ _ _ _ _ us hl => match us, hl with | [_, _], _ => rfl⟩
theorem k_Player_exit_status : DfOk pg d_Player_exit_status := ⟨by kernel_rfl, ⟨rfl, rfl, rfl, by decide +kernel, rfl, by decide +kernel, by decide +kernel⟩, by decide +kernel, fun _ _ _ _ _ _ us hl => match us, hl with | [_], _ => rfl⟩
theorem k_Player_check : DfOk pg d_Player_check := ⟨by kernel_rfl, ⟨rfl, rfl, rfl, by decide +kernel, rfl, by decide +kernel, by decide +kernel⟩, by decide +kernel, fun _ _ _ _ _ _ us hl => match us, hl with | [_, _, _], _ => rfl⟩
theorem k_Player_check_option : DfOk pg d_Player_check_option := ⟨by kernel_rfl, ⟨rfl, rfl, rfl, by decide +kernel, rfl, by decide +kernel, by decide +kernel⟩, by decide +kernel, fun _ _ _ _ _ _ us hl => match us, hl with | [_], _ => rfl⟩
theorem k_Player_end_shell : DfOk pg d_Player_end_shell := ⟨by kernel_rfl, ⟨rfl, rfl, rfl, by decide +kernel, rfl, by decide +kernel, by decide +kernel⟩, by decide +kernel, fun _ _ _ _ _ _ us hl => match us, hl with | [_, _], _ => rfl⟩
theorem k_Player_finish_shell : DfOk pg d_Player_finish_shell := ⟨by kernel_rfl, ⟨rfl, rfl, rfl, by decide +kernel, rfl, by decide +kernel, by decide +kernel⟩, by decide +kernel, fun _ _ _ _ _ _ us hl => match us, hl with | [_, _], _ => rfl⟩
theorem k_started : DfOk pg d_started := ⟨by kernel_rfl, ⟨rfl, rfl, rfl, by decide +kernel, rfl, by decide +kernel, by decide +kernel⟩, by decide +kernel, fun _ _ _ _ _ _ us hl => match us, hl with | [_], _ => rfl⟩
theorem k_require_row : DfOk pg d_require_row := ⟨by kernel_rfl, ⟨rfl, rfl, rfl, by decide +kernel, rfl, by decide +kernel, by decide +kernel⟩, by decide +kernel, fun _ _ _ _ _ _ us hl => match us, hl with | [_], _ => rfl⟩
theorem k_played : DfOk pg d_played := ⟨by kernel_rfl, ⟨rfl, rfl, rfl, by decide +kernel, rfl, by decide +kernel, by decide +kernel⟩, by decide +kernel, fun _ _ _ _ _ _ us hl => match us, hl with | [_, _], _ => rfl⟩
theorem k_outcome_of : DfOk pg d_outcome_of := ⟨by kernel_rfl, ⟨rfl, rfl, rfl, by decide +kernel, rfl, by decide +kernel, by decide +kernel⟩, by decide +kernel, fun _ _ _ _ _ _ us hl => match us, hl with | [_, _], _ => rfl⟩
theorem k_run : DfOk pg d_run := ⟨by kernel_rfl, ⟨rfl, rfl, rfl, by decide +kernel, rfl, by decide +kernel, by decide +kernel⟩, by decide +kernel, fun _ _ _ _ _ _ us hl => match us, hl with | [_, _], _ => rfl⟩
theorem k__law_mixed : DfOk pg d__law_mixed := ⟨by kernel_rfl, ⟨rfl, rfl, rfl, by decide +kernel, rfl, by decide +kernel, by decide +kernel⟩, by decide +kernel, fun _ _ _ _ _ _ us hl => match us, hl with | [_, _], _ => rfl⟩
theorem k__law_source : DfOk pg d__law_source := ⟨by kernel_rfl, ⟨rfl, rfl, rfl, by decide +kernel, rfl, by decide +kernel, by decide +kernel⟩, by decide +kernel, fun _ _ _ _ _ _ us hl => match us, hl with | [_], _ => rfl⟩
theorem k__law_take : DfOk pg d__law_take := ⟨by kernel_rfl, ⟨rfl, rfl, rfl, by decide +kernel, rfl, by decide +kernel, by decide +kernel⟩, by decide +kernel, fun _ _ _ _ _ _ us hl => match us, hl with | [_, _], _ => rfl⟩
theorem k__law_pick : DfOk pg d__law_pick := ⟨by kernel_rfl, ⟨rfl, rfl, rfl, by decide +kernel, rfl, by decide +kernel, by decide +kernel⟩, by decide +kernel, fun _ _ _ _ _ _ us hl => match us, hl with | [_, _], _ => rfl⟩
theorem k__law_shown : DfOk pg d__law_shown := ⟨by kernel_rfl, ⟨rfl, rfl, rfl, by decide +kernel, rfl, by decide +kernel, by decide +kernel⟩, by decide +kernel, fun _ _ _ _ _ _ us hl => match us, hl with | [_], _ => rfl⟩
theorem k__law_loops : DfOk pg d__law_loops := ⟨by kernel_rfl, ⟨rfl, rfl, rfl, by decide +kernel, rfl, by decide +kernel, by decide +kernel⟩, by decide +kernel, fun _ _ _ _ _ _ us hl => match us, hl with | [_, _, _], _ => rfl⟩
theorem k__law_calls : DfOk pg d__law_calls := ⟨by kernel_rfl, ⟨rfl, rfl, rfl, by decide +kernel, rfl, by decide +kernel, by decide +kernel⟩, by decide +kernel, fun _ _ _ _ _ _ us hl => match us, hl with | [_, _, _], _ => rfl⟩
theorem k__law_ended : DfOk pg d__law_ended := ⟨by kernel_rfl, ⟨rfl, rfl, rfl, by decide +kernel, rfl, by decide +kernel, by decide +kernel⟩, by decide +kernel, fun _ _ _ _ _ _ us hl => match us, hl with | [_, _, _], _ => rfl⟩
theorem k_law : DfOk pg d_law := ⟨by kernel_rfl, ⟨rfl, rfl, rfl, by decide +kernel, rfl, by decide +kernel, by decide +kernel⟩, by decide +kernel, fun _ _ _ _ _ _ us hl => match us, hl with | [_], _ => rfl⟩
theorem k_InvalidProgram : XcOk pg x_InvalidProgram := ⟨⟨⟨10, 8, 10, 12⟩, ⟨10, 8, 10, 17⟩, ⟨10, 20, 10, 24⟩, ⟨10, 8, 10, 24⟩, by kernel_rfl⟩, ⟨rfl, rfl, rfl, by decide +kernel, rfl, by decide +kernel, by decide +kernel⟩, by decide +kernel, by decide +kernel, by decide +kernel, fun _ _ _ _ _ _ us hl => match us, hl with | [_, _], _ => rfl⟩
theorem k_InvalidRow : XcOk pg x_InvalidRow := ⟨⟨⟨14, 8, 14, 12⟩, ⟨14, 8, 14, 18⟩, ⟨14, 21, 14, 26⟩, ⟨14, 8, 14, 26⟩, by kernel_rfl⟩, ⟨rfl, rfl, rfl, by decide +kernel, rfl, by decide +kernel, by decide +kernel⟩, by decide +kernel, by decide +kernel, by decide +kernel, fun _ _ _ _ _ _ us hl => match us, hl with | [_, _], _ => rfl⟩
abbrev i__wall : Nat := 0
theorem c__wall (n : Nat) (v0 : Va) (M : Mem) : (orcN pg.fs (n + 1)).cl 0 [v0] M = (dSs (orcN pg.fs n) b__wall [some v0] M).toR := by kernel_rfl
abbrev i_is_integer : Nat := 1
theorem c_is_integer (n : Nat) (v0 : Va) (M : Mem) : (orcN pg.fs (n + 1)).cl 1 [v0] M = (dSs (orcN pg.fs n) b_is_integer [some v0] M).toR := by kernel_rfl
abbrev i_is_at_least : Nat := 2
theorem c_is_at_least (n : Nat) (v0 v1 : Va) (M : Mem) : (orcN pg.fs (n + 1)).cl 2 [v0, v1] M = (dSs (orcN pg.fs n) b_is_at_least [some v0, some v1] M).toR := by kernel_rfl
abbrev i_is_between : Nat := 3
theorem c_is_between (n : Nat) (v0 v1 v2 : Va) (M : Mem) : (orcN pg.fs (n + 1)).cl 3 [v0, v1, v2] M = (dSs (orcN pg.fs n) b_is_between [some v0, some v1, some v2] M).toR := by kernel_rfl
abbrev i_is_name : Nat := 4
theorem c_is_name (n : Nat) (v0 : Va) (M : Mem) : (orcN pg.fs (n + 1)).cl 4 [v0] M = (dSs (orcN pg.fs n) b_is_name [some v0, none] M).toR := by kernel_rfl
abbrev i_is_number_or_none : Nat := 5
theorem c_is_number_or_none (n : Nat) (v0 : Va) (M : Mem) : (orcN pg.fs (n + 1)).cl 5 [v0] M = (dSs (orcN pg.fs n) b_is_number_or_none [some v0] M).toR := by kernel_rfl
abbrev i_kids_of : Nat := 6
theorem c_kids_of (n : Nat) (v0 : Va) (M : Mem) : (orcN pg.fs (n + 1)).cl 6 [v0] M = (dSs (orcN pg.fs n) b_kids_of [some v0, none, none] M).toR := by kernel_rfl
abbrev i_is_leaf : Nat := 7
theorem c_is_leaf (n : Nat) (v0 v1 v2 v3 : Va) (M : Mem) : (orcN pg.fs (n + 1)).cl 7 [v0, v1, v2, v3] M = (dSs (orcN pg.fs n) b_is_leaf [some v0, some v1, some v2, some v3] M).toR := by kernel_rfl
abbrev i_is_word : Nat := 8
theorem c_is_word (n : Nat) (v0 v1 : Va) (M : Mem) : (orcN pg.fs (n + 1)).cl 8 [v0, v1] M = (dSs (orcN pg.fs n) b_is_word [some v0, some v1] M).toR := by kernel_rfl
abbrev i_is_node : Nat := 9
theorem c_is_node (n : Nat) (v0 v1 v2 : Va) (M : Mem) : (orcN pg.fs (n + 1)).cl 9 [v0, v1, v2] M = (dSs (orcN pg.fs n) b_is_node [some v0, some v1, some v2] M).toR := by kernel_rfl
abbrev i_is_jump : Nat := 10
theorem c_is_jump (n : Nat) (v0 v1 v2 v3 v4 : Va) (M : Mem) : (orcN pg.fs (n + 1)).cl 10 [v0, v1, v2, v3, v4] M = (dSs (orcN pg.fs n) b_is_jump [some v0, some v1, some v2, some v3, some v4] M).toR := by kernel_rfl
abbrev i_Checker___init__ : Nat := 11
theorem c_Checker___init__ (n : Nat) (v0 : Va) (M : Mem) : (orcN pg.fs (n + 1)).cl 11 [v0] M = (dSs (orcN pg.fs n) b_Checker___init__ [some v0] M).toR := by kernel_rfl
theorem ci_Checker___init__ (n : Nat) (v0 : Va) (M : Mem) : (orcN pg.fs (n + 2)).ini 11 [v0] M = (dSs (orcN pg.fs n) b_Checker___init__ [some v0] M).toR := by kernel_rfl
abbrev i_Checker_look : Nat := 12
theorem c_Checker_look (n : Nat) (v0 v1 v2 v3 v4 v5 : Va) (M : Mem) : (orcN pg.fs (n + 1)).cl 12 [v0, v1, v2, v3, v4, v5] M = (dSs (orcN pg.fs n) b_Checker_look [some v0, some v1, some v2, some v3, some v4, some v5, none, none, none, none] M).toR := by kernel_rfl
abbrev i_require_program : Nat := 13
theorem c_require_program (n : Nat) (v0 : Va) (M : Mem) : (orcN pg.fs (n + 1)).cl 13 [v0] M = (dSs (orcN pg.fs n) b_require_program [some v0, none, none, none, none] M).toR := by kernel_rfl
abbrev i_size_of : Nat := 14
theorem c_size_of (n : Nat) (v0 v1 : Va) (M : Mem) : (orcN pg.fs (n + 1)).cl 14 [v0, v1] M = (dSs (orcN pg.fs n) b_size_of [some v0, some v1, none, none] M).toR := by kernel_rfl
abbrev i_unfolded_size : Nat := 15
theorem c_unfolded_size (n : Nat) (v0 : Va) (M : Mem) : (orcN pg.fs (n + 1)).cl 15 [v0] M = (dSs (orcN pg.fs n) b_unfolded_size [some v0, none, none, none] M).toR := by kernel_rfl
abbrev i_trees_of : Nat := 16
theorem c_trees_of (n : Nat) (v0 : Va) (M : Mem) : (orcN pg.fs (n + 1)).cl 16 [v0] M = (dSs (orcN pg.fs n) b_trees_of [some v0, none, none, none, none, none, none, none, none, none] M).toR := by kernel_rfl
abbrev i_variables_of : Nat := 17
theorem c_variables_of (n : Nat) (v0 : Va) (M : Mem) : (orcN pg.fs (n + 1)).cl 17 [v0] M = (dSs (orcN pg.fs n) b_variables_of [some v0, none, none, none] M).toR := by kernel_rfl
abbrev i_Code___init__ : Nat := 18
theorem c_Code___init__ (n : Nat) (v0 v1 : Va) (M : Mem) : (orcN pg.fs (n + 1)).cl 18 [v0, v1] M = (dSs (orcN pg.fs n) b_Code___init__ [some v0, some v1, none, none, none, none, none, none, none] M).toR := by kernel_rfl
theorem ci_Code___init__ (n : Nat) (v0 v1 : Va) (M : Mem) : (orcN pg.fs (n + 2)).ini 18 [v0, v1] M = (dSs (orcN pg.fs n) b_Code___init__ [some v0, some v1, none, none, none, none, none, none, none] M).toR := by kernel_rfl
abbrev i_ShellData___init__ : Nat := 19
theorem c_ShellData___init__ (n : Nat) (v0 v1 v2 v3 : Va) (M : Mem) : (orcN pg.fs (n + 1)).cl 19 [v0, v1, v2, v3] M = (dSs (orcN pg.fs n) b_ShellData___init__ [some v0, some v1, some v2, some v3] M).toR := by kernel_rfl
theorem ci_ShellData___init__ (n : Nat) (v0 v1 v2 v3 : Va) (M : Mem) : (orcN pg.fs (n + 2)).ini 19 [v0, v1, v2, v3] M = (dSs (orcN pg.fs n) b_ShellData___init__ [some v0, some v1, some v2, some v3] M).toR := by kernel_rfl
abbrev i_ShellData_twin : Nat := 20
theorem c_ShellData_twin (n : Nat) (v0 : Va) (M : Mem) : (orcN pg.fs (n + 1)).cl 20 [v0] M = (dSs (orcN pg.fs n) b_ShellData_twin [some v0] M).toR := by kernel_rfl
abbrev i_ShellData_key : Nat := 21
theorem c_ShellData_key (n : Nat) (v0 : Va) (M : Mem) : (orcN pg.fs (n + 1)).cl 21 [v0] M = (dSs (orcN pg.fs n) b_ShellData_key [some v0] M).toR := by kernel_rfl
abbrev i_Player___init__ : Nat := 22
theorem c_Player___init__ (n : Nat) (v0 v1 : Va) (M : Mem) : (orcN pg.fs (n + 1)).cl 22 [v0, v1] M = (dSs (orcN pg.fs n) b_Player___init__ [some v0, some v1, none] M).toR := by kernel_rfl
theorem ci_Player___init__ (n : Nat) (v0 v1 : Va) (M : Mem) : (orcN pg.fs (n + 2)).ini 22 [v0, v1] M = (dSs (orcN pg.fs n) b_Player___init__ [some v0, some v1, none] M).toR := by kernel_rfl
abbrev i_Player_twin : Nat := 23
theorem c_Player_twin (n : Nat) (v0 : Va) (M : Mem) : (orcN pg.fs (n + 1)).cl 23 [v0] M = (dSs (orcN pg.fs n) b_Player_twin [some v0] M).toR := by kernel_rfl
abbrev i_Player_tell : Nat := 24
theorem c_Player_tell (n : Nat) (v0 v1 : Va) (M : Mem) : (orcN pg.fs (n + 1)).cl 24 [v0, v1] M = (dSs (orcN pg.fs n) b_Player_tell [some v0, some v1, none] M).toR := by kernel_rfl
abbrev i_Player_go_on : Nat := 25
theorem c_Player_go_on (n : Nat) (v0 : Va) (M : Mem) : (orcN pg.fs (n + 1)).cl 25 [v0] M = (dSs (orcN pg.fs n) b_Player_go_on [some v0, none, none] M).toR := by kernel_rfl
abbrev i_Player_begin : Nat := 26
theorem c_Player_begin (n : Nat) (v0 v1 v2 v3 : Va) (M : Mem) : (orcN pg.fs (n + 1)).cl 26 [v0, v1, v2, v3] M = (dSs (orcN pg.fs n) b_Player_begin [some v0, some v1, some v2, some v3, none] M).toR := by kernel_rfl
abbrev i_Player_value_of : Nat := 27
theorem c_Player_value_of (n : Nat) (v0 v1 : Va) (M : Mem) : (orcN pg.fs (n + 1)).cl 27 [v0, v1] M = (dSs (orcN pg.fs n) b_Player_value_of [some v0, some v1, none] M).toR := by kernel_rfl
abbrev i_Player_set_data : Nat := 28
theorem c_Player_set_data (n : Nat) (v0 v1 v2 : Va) (M : Mem) : (orcN pg.fs (n + 1)).cl 28 [v0, v1, v2] M = (dSs (orcN pg.fs n) b_Player_set_data [some v0, some v1, some v2, none] M).toR := by kernel_rfl
abbrev i_Player_open_tree : Nat := 29
theorem c_Player_open_tree (n : Nat) (v0 v1 v2 v3 : Va) (M : Mem) : (orcN pg.fs (n + 1)).cl 29 [v0, v1, v2, v3] M = (dSs (orcN pg.fs n) b_Player_open_tree [some v0, some v1, some v2, some v3, none, none] M).toR := by kernel_rfl
abbrev i_Player_ask_condition : Nat := 30
theorem c_Player_ask_condition (n : Nat) (v0 v1 v2 v3 : Va) (M : Mem) : (orcN pg.fs (n + 1)).cl 30 [v0, v1, v2, v3] M = (dSs (orcN pg.fs n) b_Player_ask_condition [some v0, some v1, some v2, some v3] M).toR := by kernel_rfl
abbrev i_Player_next_round : Nat := 31
theorem c_Player_next_round (n : Nat) (v0 v1 v2 v3 v4 : Va) (M : Mem) : (orcN pg.fs (n + 1)).cl 31 [v0, v1, v2, v3, v4] M = (dSs (orcN pg.fs n) b_Player_next_round [some v0, some v1, some v2, some v3, some v4] M).toR := by kernel_rfl
abbrev i_Player_open_shell : Nat := 32
theorem c_Player_open_shell (n : Nat) (v0 v1 v2 : Va) (M : Mem) : (orcN pg.fs (n + 1)).cl 32 [v0, v1, v2] M = (dSs (orcN pg.fs n) b_Player_open_shell [some v0, some v1, some v2, none] M).toR := by kernel_rfl
abbrev i_Player_open_part : Nat := 33
theorem c_Player_open_part (n : Nat) (v0 v1 v2 v3 v4 v5 : Va) (M : Mem) : (orcN pg.fs (n + 1)).cl 33 [v0, v1, v2, v3, v4, v5] M = (dSs (orcN pg.fs n) b_Player_open_part [some v0, some v1, some v2, some v3, some v4, some v5] M).toR := by kernel_rfl
abbrev i_Player_back : Nat := 34
theorem c_Player_back (n : Nat) (v0 : Va) (M : Mem) : (orcN pg.fs (n + 1)).cl 34 [v0] M = (dSs (orcN pg.fs n) b_Player_back [some v0, none, none] M).toR := by kernel_rfl
abbrev i_Player_back_to_plain : Nat := 35
theorem c_Player_back_to_plain (n : Nat) (v0 v1 : Va) (M : Mem) : (orcN pg.fs (n + 1)).cl 35 [v0, v1] M = (dSs (orcN pg.fs n) b_Player_back_to_plain [some v0, some v1, none, none, none] M).toR := by kernel_rfl
abbrev i_Player_back_to_loop : Nat := 36
theorem c_Player_back_to_loop (n : Nat) (v0 v1 : Va) (M : Mem) : (orcN pg.fs (n + 1)).cl 36 [v0, v1] M = (dSs (orcN pg.fs n) b_Player_back_to_loop [some v0, some v1, none, none, none] M).toR := by kernel_rfl
abbrev i_Player_leave_loops : Nat := 37
theorem c_Player_leave_loops (n : Nat) (v0 v1 v2 : Va) (M : Mem) : (orcN pg.fs (n + 1)).cl 37 [v0, v1, v2] M = (dSs (orcN pg.fs n) b_Player_leave_loops [some v0, some v1, some v2, none] M).toR := by kernel_rfl
abbrev i_Player_leave_call : Nat := 38
theorem c_Player_leave_call (n : Nat) (v0 v1 : Va) (M : Mem) : (orcN pg.fs (n + 1)).cl 38 [v0, v1] M = (dSs (orcN pg.fs n) b_Player_leave_call [some v0, some v1, none] M).toR := by kernel_rfl
abbrev i_Player_exit_status : Nat := 39
theorem c_Player_exit_status (n : Nat) (v0 : Va) (M : Mem) : (orcN pg.fs (n + 1)).cl 39 [v0] M = (dSs (orcN pg.fs n) b_Player_exit_status [some v0, none, none] M).toR := by kernel_rfl
abbrev i_Player_check : Nat := 40
theorem c_Player_check (n : Nat) (v0 v1 v2 : Va) (M : Mem) : (orcN pg.fs (n + 1)).cl 40 [v0, v1, v2] M = (dSs (orcN pg.fs n) b_Player_check [some v0, some v1, some v2, none, none, none] M).toR := by kernel_rfl
abbrev i_Player_check_option : Nat := 41
theorem c_Player_check_option (n : Nat) (v0 : Va) (M : Mem) : (orcN pg.fs (n + 1)).cl 41 [v0] M = (dSs (orcN pg.fs n) b_Player_check_option [some v0] M).toR := by kernel_rfl
abbrev i_Player_end_shell : Nat := 42
theorem c_Player_end_shell (n : Nat) (v0 v1 : Va) (M : Mem) : (orcN pg.fs (n + 1)).cl 42 [v0, v1] M = (dSs (orcN pg.fs n) b_Player_end_shell [some v0, some v1, none] M).toR := by kernel_rfl
abbrev i_Player_finish_shell : Nat := 43
theorem c_Player_finish_shell (n : Nat) (v0 v1 : Va) (M : Mem) : (orcN pg.fs (n + 1)).cl 43 [v0, v1] M = (dSs (orcN pg.fs n) b_Player_finish_shell [some v0, some v1, none, none, none, none, none, none, none] M).toR := by kernel_rfl
abbrev i_started : Nat := 44
theorem c_started (n : Nat) (v0 : Va) (M : Mem) : (orcN pg.fs (n + 1)).cl 44 [v0] M = (dSs (orcN pg.fs n) b_started [some v0, none] M).toR := by kernel_rfl
abbrev i_require_row : Nat := 45
theorem c_require_row (n : Nat) (v0 : Va) (M : Mem) : (orcN pg.fs (n + 1)).cl 45 [v0] M = (dSs (orcN pg.fs n) b_require_row [some v0, none, none] M).toR := by kernel_rfl
abbrev i_played : Nat := 46
theorem c_played (n : Nat) (v0 v1 : Va) (M : Mem) : (orcN pg.fs (n + 1)).cl 46 [v0, v1] M = (dSs (orcN pg.fs n) b_played [some v0, some v1, none, none, none] M).toR := by kernel_rfl
abbrev i_outcome_of : Nat := 47
theorem c_outcome_of (n : Nat) (v0 v1 : Va) (M : Mem) : (orcN pg.fs (n + 1)).cl 47 [v0, v1] M = (dSs (orcN pg.fs n) b_outcome_of [some v0, some v1] M).toR := by kernel_rfl
abbrev i_run : Nat := 48
theorem c_run (n : Nat) (v0 v1 : Va) (M : Mem) : (orcN pg.fs (n + 1)).cl 48 [v0, v1] M = (dSs (orcN pg.fs n) b_run [some v0, some v1, none, none, none, none] M).toR := by kernel_rfl
abbrev i__law_mixed : Nat := 49
theorem c__law_mixed (n : Nat) (v0 v1 : Va) (M : Mem) : (orcN pg.fs (n + 1)).cl 49 [v0, v1] M = (dSs (orcN pg.fs n) b__law_mixed [some v0, some v1, none] M).toR := by kernel_rfl
abbrev i__law_source : Nat := 50
theorem c__law_source (n : Nat) (v0 : Va) (M : Mem) : (orcN pg.fs (n + 1)).cl 50 [v0] M = (dSs (orcN pg.fs n) b__law_source [some v0] M).toR := by kernel_rfl
abbrev i__law_take : Nat := 51
theorem c__law_take (n : Nat) (v0 v1 : Va) (M : Mem) : (orcN pg.fs (n + 1)).cl 51 [v0, v1] M = (dSs (orcN pg.fs n) b__law_take [some v0, some v1, none] M).toR := by kernel_rfl
abbrev i__law_pick : Nat := 52
theorem c__law_pick (n : Nat) (v0 v1 : Va) (M : Mem) : (orcN pg.fs (n + 1)).cl 52 [v0, v1] M = (dSs (orcN pg.fs n) b__law_pick [some v0, some v1] M).toR := by kernel_rfl
abbrev i__law_shown : Nat := 53
theorem c__law_shown (n : Nat) (v0 : Va) (M : Mem) : (orcN pg.fs (n + 1)).cl 53 [v0] M = (dSs (orcN pg.fs n) b__law_shown [some v0] M).toR := by kernel_rfl
abbrev i__law_loops : Nat := 54
theorem c__law_loops (n : Nat) (v0 v1 v2 : Va) (M : Mem) : (orcN pg.fs (n + 1)).cl 54 [v0, v1, v2] M = (dSs (orcN pg.fs n) b__law_loops [some v0, some v1, some v2, none, none, none, none, none] M).toR := by kernel_rfl
abbrev i__law_calls : Nat := 55
theorem c__law_calls (n : Nat) (v0 v1 v2 : Va) (M : Mem) : (orcN pg.fs (n + 1)).cl 55 [v0, v1, v2] M = (dSs (orcN pg.fs n) b__law_calls [some v0, some v1, some v2, none, none, none, none] M).toR := by kernel_rfl
abbrev i__law_ended : Nat := 56
theorem c__law_ended (n : Nat) (v0 v1 v2 : Va) (M : Mem) : (orcN pg.fs (n + 1)).cl 56 [v0, v1, v2] M = (dSs (orcN pg.fs n) b__law_ended [some v0, some v1, some v2, none, none, none, none, none, none, none, none, none] M).toR := by kernel_rfl
abbrev i_law : Nat := 57
theorem c_law (n : Nat) (v0 : Va) (M : Mem) : (orcN pg.fs (n + 1)).cl 57 [v0] M = (dSs (orcN pg.fs n) b_law [some v0, none, none, none, none, none, none, none, none, none, none, none] M).toR := by kernel_rfl
abbrev fl_path : Nat := 0
abbrev fl_index : Nat := 1
abbrev fl_count : Nat := 2
abbrev fl_names : Nat := 3
abbrev fl_paths : Nat := 4
abbrev fl_trees : Nat := 5
abbrev fl_kids : Nat := 6
abbrev fl_bodies : Nat := 7
abbrev fl_main : Nat := 8
abbrev fl_variables : Nat := 9
abbrev fl_options : Nat := 10
abbrev fl_base : Nat := 11
abbrev fl_traps : Nat := 12
abbrev fl_is_trapped : Nat := 13
abbrev fl_code : Nat := 14
abbrev fl_frames : Nat := 15
abbrev fl_shells : Nat := 16
abbrev fl_last : Nat := 17
abbrev fl_asked : Nat := 18
abbrev fl_ended : Nat := 19
abbrev fl_is_silent : Nat := 20
abbrev fl_is_asked_tested : Nat := 21
abbrev fl_begun : Nat := 22
abbrev fl_coming : Nat := 23
abbrev fl_noted : Nat := 24
abbrev fl_is_failing : Nat := 25
theorem dfs_ok : ∀ d ∈ pg.dfs, DfOk pg d := (List.forall_mem_cons.mpr ⟨k__wall, (List.forall_mem_cons.mpr ⟨k_is_integer, (List.forall_mem_cons.mpr ⟨k_is_at_least, (List.forall_mem_cons.mpr ⟨k_is_between, (List.forall_mem_cons.mpr ⟨k_is_name, (List.forall_mem_cons.mpr ⟨k_is_number_or_none, (List.forall_mem_cons.mpr ⟨k_kids_of, (List.forall_mem_cons.mpr ⟨k_is_leaf, (List.forall_mem_cons.mpr ⟨k_is_word, (List.forall_mem_cons.mpr ⟨k_is_node, (List.forall_mem_cons.mpr ⟨k_is_jump, (List.forall_mem_cons.mpr ⟨k_Checker___init__, (List.forall_mem_cons.mpr ⟨k_Checker_look, (List.forall_mem_cons.mpr ⟨k_require_program, (List.forall_mem_cons.mpr ⟨k_size_of, (List.forall_mem_cons.mpr ⟨k_unfolded_size, (List.forall_mem_cons.mpr ⟨k_trees_of, (List.forall_mem_cons.mpr ⟨k_variables_of, (List.forall_mem_cons.mpr ⟨k_Code___init__, (List.forall_mem_cons.mpr ⟨k_ShellData___init__, (List.forall_mem_cons.mpr ⟨k_ShellData_twin, (List.forall_mem_cons.mpr ⟨k_ShellData_key, (List.forall_mem_cons.mpr ⟨k_Player___init__, (List.forall_mem_cons.mpr ⟨k_Player_twin, (List.forall_mem_cons.mpr ⟨k_Player_tell, (List.forall_mem_cons.mpr ⟨k_Player_go_on, (List.forall_mem_cons.mpr ⟨k_Player_begin, (List.forall_mem_cons.mpr ⟨k_Player_value_of, (List.forall_mem_cons.mpr ⟨k_Player_set_data, (List.forall_mem_cons.mpr ⟨k_Player_open_tree, (List.forall_mem_cons.mpr ⟨k_Player_ask_condition, (List.forall_mem_cons.mpr ⟨k_Player_next_round, (List.forall_mem_cons.mpr ⟨k_Player_open_shell, (List.forall_mem_cons.mpr ⟨k_Player_open_part, (List.forall_mem_cons.mpr ⟨k_Player_back, (List.forall_mem_cons.mpr ⟨k_Player_back_to_plain, (List.forall_mem_cons.mpr ⟨k_Player_back_to_loop, (List.forall_mem_cons.mpr ⟨k_Player_leave_loops, (List.forall_mem_cons.mpr ⟨k_Player_leave_call, (List.forall_mem_cons.mpr ⟨k_Player_exit_status, (List.forall_mem_cons.mpr ⟨k_Player_check, (List.forall_mem_cons.mpr ⟨k_Player_check_option, (List.forall_mem_cons.mpr ⟨k_Player_end_shell, (List.forall_mem_cons.mpr ⟨k_Player_finish_shell, (List.forall_mem_cons.mpr ⟨k_started, (List.forall_mem_cons.mpr ⟨k_require_row, (List.forall_mem_cons.mpr ⟨k_played, (List.forall_mem_cons.mpr ⟨k_outcome_of, (List.forall_mem_cons.mpr ⟨k_run, (List.forall_mem_cons.mpr ⟨k__law_mixed, (List.forall_mem_cons.mpr ⟨k__law_source, (List.forall_mem_cons.mpr ⟨k__law_take, (List.forall_mem_cons.mpr ⟨k__law_pick, (List.forall_mem_cons.mpr ⟨k__law_shown, (List.forall_mem_cons.mpr ⟨k__law_loops, (List.forall_mem_cons.mpr ⟨k__law_calls, (List.forall_mem_cons.mpr ⟨k__law_ended, (List.forall_mem_cons.mpr ⟨k_law, (fun _ h => nomatch h)⟩)⟩)⟩)⟩)⟩)⟩)⟩)⟩)⟩)⟩)⟩)⟩)⟩)⟩)⟩)⟩)⟩)⟩)⟩)⟩)⟩)⟩)⟩)⟩)⟩)⟩)⟩)⟩)⟩)⟩)⟩)⟩)⟩)⟩)⟩)⟩)⟩)⟩)⟩)⟩)⟩)⟩)⟩)⟩)⟩)⟩)⟩)⟩)⟩)⟩)⟩)⟩)⟩)⟩)⟩)⟩)⟩)⟩)
theorem exs_ok : ∀ x ∈ pg.exs, XcOk pg x := (List.forall_mem_cons.mpr ⟨k_InvalidProgram, (List.forall_mem_cons.mpr ⟨k_InvalidRow, (fun _ h => nomatch h)⟩)⟩)
theorem fld_ok : fldOk pg.flds = true := by decide +kernel
end K19
namespace K19
open PySem Dn Pr
theorem is_integer_ok (n : Nat) (v : Va) (M : Mem) (h : vok v = true) : (orcN pg.fs (n + 1)).cl i_is_integer [v] M = .ok (.bl (intV v)) M := by
  rw [c_is_integer]
  cases v <;> simp [b_is_integer, dSs, dS, dE, dEs, dB_one, dB_and, dB_or, ite_and, ite_or, dC, dI, dO, Res.bind, Res.toS, Res.ofO, Rs.toR, Rs.ofO, opC, eqL, asB, eqC_int, flat, sz0, sz1, sz2, sz3, sz4, sz5, sz6, sz7, isi_int h, isi_bool h, intV, blV] <;> simp [vok] at h
theorem is_between_ok (n : Nat) (v : Va) (lo hi : Int) (M : Mem) (h : vok v = true) : (orcN pg.fs (n + 2)).cl i_is_between [v, .int lo, .int hi] M = .ok (.bl (betw v lo hi)) M := by
  rw [c_is_between]
  have e := is_integer_ok n v M h
  cases v with
  | int i => by_cases h1 : lo ≤ i <;> by_cases h2 : i ≤ hi <;> simp [b_is_between, dSs, dS, dE, dEs, dB_one, dB_and, dB_or, ite_and, ite_or, dC, dI, dO, Res.bind, Res.toS, Res.ofO, Rs.toR, Rs.ofO, opC, eqL, asB, eqC_int, flat, sz0, sz1, sz2, sz3, sz4, sz5, sz6, sz7, e, intV, betw, h1, h2]
  | _ => simp [b_is_between, dSs, dS, dE, dEs, dB_one, dB_and, dB_or, ite_and, ite_or, dC, dI, dO, Res.bind, Res.toS, Res.ofO, Rs.toR, Rs.ofO, opC, eqL, asB, eqC_int, flat, sz0, sz1, sz2, sz3, sz4, sz5, sz6, sz7, e, intV, betw]
theorem is_name_comp (o : Orc) (s : List Nat) (M : Mem) (h : s.length ≤ sizeLine) : dE o e1_is_name [some (.str s), none] M = .ok (.lst (s.map fun c => .bl (letters.any (· == c)))) M := by
  unfold e1_is_name
  rw [comp_map (.txt s) (s.map fun c => .str [c]) (fun v => match v with | .str [c] => .bl (letters.any (· == c)) | _ => .non) (by simp [dSs, dS, dE, dEs, dB_one, dB_and, dB_or, ite_and, ite_or, dC, dI, dO, Res.bind, Res.toS, Res.ofO, Rs.toR, Rs.ofO, opC, eqL, asB, eqC_int, flat, sz0, sz1, sz2, sz3, sz4, sz5, sz6, sz7, seqOf]) (fun i => by simp [Itv.at]) (fun v hv => by
    obtain ⟨c, hc, rfl⟩ := List.mem_map.mp hv
    exact ⟨_, rfl, by simp [dSs, dS, dE, dEs, dB_one, dB_and, dB_or, ite_and, ite_or, dC, dI, dO, Res.bind, Res.toS, Res.ofO, Rs.toR, Rs.ofO, opC, eqL, asB, eqC_int, flat, sz0, sz1, sz2, sz3, sz4, sz5, sz6, sz7, wipeE, opIn, letters]⟩) (by simpa using h)]
  simp [finC, List.map_map, Function.comp_def]
theorem is_name_ok (n : Nat) (v : Va) (M : Mem) (h : vok v = true) : (orcN pg.fs (n + 1)).cl i_is_name [v] M = .ok (.bl (nameV v)) M := by
  rw [c_is_name]
  cases v with
  | str s =>
    have h' := h
    simp only [vok, Bool.and_eq_true, decide_eq_true_eq] at h'
    have hr : (g_RESERVED.any fun y => veq (.str y) (.str s)) = inW s reserved := by
      simp only [veq]; rfl
    by_cases h1 : 1 ≤ s.length
    · by_cases h2 : s.length ≤ 12
      · have h1' : (1 : Int) ≤ s.length := by omega
        have h2' : (s.length : Int) ≤ 12 := by omega
        cases h3 : inW s reserved with
        | true => simp [b_is_name, dSs, dS, dE, dEs, dB_one, dB_and, dB_or, ite_and, ite_or, dC, dI, dO, Res.bind, Res.toS, Res.ofO, Rs.toR, Rs.ofO, opC, eqL, asB, eqC_int, flat, sz0, sz1, sz2, sz3, sz4, sz5, sz6, sz7, isi_str h, strV, opF, h'.1, h1', h2', hr, h3, nameV, nameS]
        | false => simp [b_is_name, dSs, dS, dE, dEs, dB_one, dB_and, dB_or, ite_and, ite_or, dC, dI, dO, Res.bind, Res.toS, Res.ofO, Rs.toR, Rs.ofO, opC, eqL, asB, eqC_int, flat, sz0, sz1, sz2, sz3, sz4, sz5, sz6, sz7, isi_str h, strV, opF, h'.1, h1', h2', h1, h2, hr, h3, nameV, nameS, is_name_comp _ s M h'.1, itemsL, blsOf_map, List.all_map, Function.comp_def]
      · have h1' : (1 : Int) ≤ s.length := by omega
        have h2' : ¬ (s.length : Int) ≤ 12 := by omega
        simp [b_is_name, dSs, dS, dE, dEs, dB_one, dB_and, dB_or, ite_and, ite_or, dC, dI, dO, Res.bind, Res.toS, Res.ofO, Rs.toR, Rs.ofO, opC, eqL, asB, eqC_int, flat, sz0, sz1, sz2, sz3, sz4, sz5, sz6, sz7, isi_str h, strV, opF, h'.1, h1', h2', h2, nameV, nameS]
    · have h1' : ¬ (1 : Int) ≤ s.length := by omega
      simp [b_is_name, dSs, dS, dE, dEs, dB_one, dB_and, dB_or, ite_and, ite_or, dC, dI, dO, Res.bind, Res.toS, Res.ofO, Rs.toR, Rs.ofO, opC, eqL, asB, eqC_int, flat, sz0, sz1, sz2, sz3, sz4, sz5, sz6, sz7, isi_str h, strV, opF, h'.1, h1', h1, nameV, nameS]
  | _ => simp [b_is_name, dSs, dS, dE, dEs, dB_one, dB_and, dB_or, ite_and, ite_or, dC, dI, dO, Res.bind, Res.toS, Res.ofO, Rs.toR, Rs.ofO, opC, eqL, asB, eqC_int, flat, sz0, sz1, sz2, sz3, sz4, sz5, sz6, sz7, isi_str h, strV, nameV] <;> simp [vok] at h
theorem is_number_or_none_ok (n : Nat) (v : Va) (M : Mem) (h : vok v = true) : (orcN pg.fs (n + 3)).cl i_is_number_or_none [v] M = .ok (.bl (numN v)) M := by
  rw [c_is_number_or_none]
  have e := is_between_ok n v 0 255 M h
  cases v <;> simp [b_is_number_or_none, dSs, dS, dE, dEs, dB_one, dB_and, dB_or, ite_and, ite_or, dC, dI, dO, Res.bind, Res.toS, Res.ofO, Rs.toR, Rs.ofO, opC, eqL, asB, eqC_int, flat, sz0, sz1, sz2, sz3, sz4, sz5, sz6, sz7, Va.isNon, e, numN]
theorem is_word_ok (n : Nat) (v : Va) (ws : List W) (M : Mem) (h : vok v = true) : (orcN pg.fs (n + 1)).cl i_is_word [v, .tup (ws.map .str)] M = .ok (.bl (wordV ws v)) M := by
  rw [c_is_word]
  have e1 : ((ws.map Va.str).all flat) = true := by simp [List.all_map, Function.comp_def, flat]
  cases v with
  | str s =>
    have e2 : ((ws.map Va.str).any fun y => veq y (.str s)) = inW s ws := by simp [inW, List.any_map, Function.comp_def, veq]
    simp [b_is_word, dSs, dS, dE, dEs, dB_one, dB_and, dB_or, ite_and, ite_or, dC, dI, dO, Res.bind, Res.toS, Res.ofO, Rs.toR, Rs.ofO, opC, eqL, asB, eqC_int, flat, sz0, sz1, sz2, sz3, sz4, sz5, sz6, sz7, isi_str h, strV, wordV, opIn, flat, e1, e2]
  | _ => simp [b_is_word, dSs, dS, dE, dEs, dB_one, dB_and, dB_or, ite_and, ite_or, dC, dI, dO, Res.bind, Res.toS, Res.ofO, Rs.toR, Rs.ofO, opC, eqL, asB, eqC_int, flat, sz0, sz1, sz2, sz3, sz4, sz5, sz6, sz7, isi_str h, strV, wordV]
end K19
namespace K19
open PySem Dn Pr
theorem atI1 (a b : Va) (t : List Va) : L2.atI (a :: b :: t) 1 = some b := by
  unfold L2.atI L2.ixN
  rw [if_pos (by decide), if_pos (by simp only [List.length_cons]; omega)]
  rfl
theorem atI2 (a b c : Va) (t : List Va) : L2.atI (a :: b :: c :: t) 2 = some c := by
  unfold L2.atI L2.ixN
  rw [if_pos (by decide), if_pos (by simp only [List.length_cons]; omega)]
  rfl
theorem atI3 (a b c d : Va) (t : List Va) : L2.atI (a :: b :: c :: d :: t) 3 = some d := by
  unfold L2.atI L2.ixN
  rw [if_pos (by decide), if_pos (by simp only [List.length_cons]; omega)]
  rfl
theorem atI0 (a : Va) (t : List Va) : L2.atI (a :: t) 0 = some a := by
  simp [L2.atI, L2.ixN]
theorem is_word2 (n : Nat) (v : Va) (a b : W) (M : Mem) (h : vok v = true) : (orcN pg.fs (n + 1)).cl i_is_word [v, .tup [.str a, .str b]] M = .ok (.bl (wordV [a, b] v)) M := is_word_ok n v [a, b] M h
def leafW : List W := [wRun, wGive, wZero, wKeep, wCall, wStatus, wPut, wOption]
theorem is_leaf_ok (n : Nat) (w : W) (r : List Va) (kd : Nat) (kn : Kn) (M : Mem) (z : Int) (hz : z = ((Va.str w :: r).length : Nat)) (hv : voks r = true) (hw : sok w = true) (hk : M[kd]? = some (.dic kn)) :
    (orcN pg.fs (n + 4)).cl i_is_leaf [.tup (.str w :: r), .str w, .int z, .ref kd] M = .ok (.bl (leafV w (.str w :: r) kn)) M := by
  rw [c_is_leaf]
  have hn : ∀ v, vok v = true → (orcN pg.fs (n + 3)).cl 4 [v] M = .ok (.bl (nameV v)) M := fun v h => is_name_ok (n + 2) v M h
  have hb : ∀ v lo hi, vok v = true → (orcN pg.fs (n + 3)).cl 3 [v, .int lo, .int hi] M = .ok (.bl (betw v lo hi)) M := fun v lo hi h => is_between_ok (n + 1) v lo hi M h
  have hwd : ∀ v a b, vok v = true → (orcN pg.fs (n + 3)).cl 8 [v, .tup [.str a, .str b]] M = .ok (.bl (wordV [a, b] v)) M := fun v a b h => is_word2 (n + 2) v a b M h
  have hwords : w = wRun ∨ w = wGive ∨ w = wZero ∨ w = wKeep ∨ w = wCall ∨ w = wStatus ∨ w = wPut ∨ w = wOption ∨ (¬ wRun = w ∧ ¬ wGive = w ∧ ¬ wZero = w ∧ ¬ wKeep = w ∧ ¬ w = wCall ∧ ¬ w = wStatus ∧ ¬ w = wPut ∧ ¬ w = wOption) := by
    by_cases h1 : w = wRun
    · exact .inl h1
    by_cases h2 : w = wGive
    · exact .inr (.inl h2)
    by_cases h3 : w = wZero
    · exact .inr (.inr (.inl h3))
    by_cases h4 : w = wKeep
    · exact .inr (.inr (.inr (.inl h4)))
    by_cases h5 : w = wCall
    · exact .inr (.inr (.inr (.inr (.inl h5))))
    by_cases h6 : w = wStatus
    · exact .inr (.inr (.inr (.inr (.inr (.inl h6)))))
    by_cases h7 : w = wPut
    · exact .inr (.inr (.inr (.inr (.inr (.inr (.inl h7))))))
    by_cases h8 : w = wOption
    · exact .inr (.inr (.inr (.inr (.inr (.inr (.inr (.inl h8)))))))
    exact .inr (.inr (.inr (.inr (.inr (.inr (.inr (.inr ⟨fun e => h1 e.symm, fun e => h2 e.symm, fun e => h3 e.symm, fun e => h4 e.symm, h5, h6, h7, h8⟩)))))))
  rcases r with _ | ⟨b, _ | ⟨c, _ | ⟨d, t⟩⟩⟩
  · have e2 : ¬ z = 2 := by simp at hz; omega
    have e3 : ¬ z = 3 := by simp at hz; omega
    rcases hwords with rfl | rfl | rfl | rfl | rfl | rfl | rfl | rfl | ⟨h1, h2, h3, h4, h5, h6, h7, h8⟩
    all_goals first
      | (simp [b_is_leaf, dSs, dS, dE, dEs, dB_one, dB_and, dB_or, ite_and, ite_or, dC, dI, dO, Res.bind, Res.toS, Res.ofO, Rs.toR, Rs.ofO, opC, eqL, asB, eqC_int, flat, sz0, sz1, sz2, sz3, sz4, sz5, sz6, sz7, opIn, opIx, atI1, atI2, dget, hk, veq, eqC_str, sok, leafV, inW, wRun, wGive, wZero, wKeep, wCall, wStatus, wPut, wOption, wFail, wPipes, wSeq, wPipe, wAnd, wOr, wWhile, wUntil, wNot, wSub, wIf, wTimes, wTrap, wEnd, wBreak, wNext, wReturn, wExit, e2, e3]; done)
      | (simp only [wRun, wGive, wZero, wKeep, wCall, wStatus, wPut, wOption, wFail, wPipes, wSeq, wPipe, wAnd, wOr, wWhile, wUntil, wNot, wSub, wIf, wTimes, wTrap, wEnd, wBreak, wNext, wReturn, wExit] at h1 h2 h3 h4 h5 h6 h7 h8; simp only [sok] at hw; simp [b_is_leaf, dSs, dS, dE, dEs, dB_one, dB_and, dB_or, ite_and, ite_or, dC, dI, dO, Res.bind, Res.toS, Res.ofO, Rs.toR, Rs.ofO, opC, eqL, asB, eqC_int, flat, sz0, sz1, sz2, sz3, sz4, sz5, sz6, sz7, opIn, opIx, atI1, atI2, dget, hk, veq, eqC_str, sok, leafV, inW, wRun, wGive, wZero, wKeep, wCall, wStatus, wPut, wOption, wFail, wPipes, wSeq, wPipe, wAnd, wOr, wWhile, wUntil, wNot, wSub, wIf, wTimes, wTrap, wEnd, wBreak, wNext, wReturn, wExit, e2, e3, h1, h2, h3, h4, h5, h6, h7, h8, hw]; done)
  · have e2 : z = 2 := by simp at hz; omega
    subst e2
    have vb : vok b = true := by simpa [voks] using hv
    rcases hwords with rfl | rfl | rfl | rfl | rfl | rfl | rfl | rfl | ⟨h1, h2, h3, h4, h5, h6, h7, h8⟩
    all_goals first
      | (simp [b_is_leaf, dSs, dS, dE, dEs, dB_one, dB_and, dB_or, ite_and, ite_or, dC, dI, dO, Res.bind, Res.toS, Res.ofO, Rs.toR, Rs.ofO, opC, eqL, asB, eqC_int, flat, sz0, sz1, sz2, sz3, sz4, sz5, sz6, sz7, opIn, opIx, atI1, atI2, dget, hk, veq, eqC_str, sok, leafV, inW, wRun, wGive, wZero, wKeep, wCall, wStatus, wPut, wOption, wFail, wPipes, wSeq, wPipe, wAnd, wOr, wWhile, wUntil, wNot, wSub, wIf, wTimes, wTrap, wEnd, wBreak, wNext, wReturn, wExit, hn _ vb, hb _ _ _ vb, isi_str vb]; done)
      | (cases b <;> simp [b_is_leaf, dSs, dS, dE, dEs, dB_one, dB_and, dB_or, ite_and, ite_or, dC, dI, dO, Res.bind, Res.toS, Res.ofO, Rs.toR, Rs.ofO, opC, eqL, asB, eqC_int, flat, sz0, sz1, sz2, sz3, sz4, sz5, sz6, sz7, opIn, opIx, atI1, atI2, dget, hk, veq, eqC_str, sok, leafV, inW, wRun, wGive, wZero, wKeep, wCall, wStatus, wPut, wOption, wFail, wPipes, wSeq, wPipe, wAnd, wOr, wWhile, wUntil, wNot, wSub, wIf, wTimes, wTrap, wEnd, wBreak, wNext, wReturn, wExit, hn _ vb, hb _ _ _ vb, isi_str vb, strV, knownV]; done)
      | (simp only [wRun, wGive, wZero, wKeep, wCall, wStatus, wPut, wOption, wFail, wPipes, wSeq, wPipe, wAnd, wOr, wWhile, wUntil, wNot, wSub, wIf, wTimes, wTrap, wEnd, wBreak, wNext, wReturn, wExit] at h1 h2 h3 h4 h5 h6 h7 h8; simp only [sok] at hw; simp [b_is_leaf, dSs, dS, dE, dEs, dB_one, dB_and, dB_or, ite_and, ite_or, dC, dI, dO, Res.bind, Res.toS, Res.ofO, Rs.toR, Rs.ofO, opC, eqL, asB, eqC_int, flat, sz0, sz1, sz2, sz3, sz4, sz5, sz6, sz7, opIn, opIx, atI1, atI2, dget, hk, veq, eqC_str, sok, leafV, inW, wRun, wGive, wZero, wKeep, wCall, wStatus, wPut, wOption, wFail, wPipes, wSeq, wPipe, wAnd, wOr, wWhile, wUntil, wNot, wSub, wIf, wTimes, wTrap, wEnd, wBreak, wNext, wReturn, wExit, hn _ vb, hb _ _ _ vb, isi_str vb, h1, h2, h3, h4, h5, h6, h7, h8, hw]; done)
  · have e3 : z = 3 := by simp at hz; omega
    subst e3
    have vb : vok b = true := by simp [voks] at hv; exact hv.1
    have vc : vok c = true := by simp [voks] at hv; exact hv.2
    rcases hwords with rfl | rfl | rfl | rfl | rfl | rfl | rfl | rfl | ⟨h1, h2, h3, h4, h5, h6, h7, h8⟩
    all_goals first
      | (simp [b_is_leaf, dSs, dS, dE, dEs, dB_one, dB_and, dB_or, ite_and, ite_or, dC, dI, dO, Res.bind, Res.toS, Res.ofO, Rs.toR, Rs.ofO, opC, eqL, asB, eqC_int, flat, sz0, sz1, sz2, sz3, sz4, sz5, sz6, sz7, opIn, opIx, atI1, atI2, dget, hk, veq, eqC_str, sok, leafV, inW, wRun, wGive, wZero, wKeep, wCall, wStatus, wPut, wOption, wFail, wPipes, wSeq, wPipe, wAnd, wOr, wWhile, wUntil, wNot, wSub, wIf, wTimes, wTrap, wEnd, wBreak, wNext, wReturn, wExit, hn b vb, hb c _ _ vc, hwd b _ _ vb, isi_bool vc]; done)
      | (simp only [wRun, wGive, wZero, wKeep, wCall, wStatus, wPut, wOption, wFail, wPipes, wSeq, wPipe, wAnd, wOr, wWhile, wUntil, wNot, wSub, wIf, wTimes, wTrap, wEnd, wBreak, wNext, wReturn, wExit] at h1 h2 h3 h4 h5 h6 h7 h8; simp only [sok] at hw; simp [b_is_leaf, dSs, dS, dE, dEs, dB_one, dB_and, dB_or, ite_and, ite_or, dC, dI, dO, Res.bind, Res.toS, Res.ofO, Rs.toR, Rs.ofO, opC, eqL, asB, eqC_int, flat, sz0, sz1, sz2, sz3, sz4, sz5, sz6, sz7, opIn, opIx, atI1, atI2, dget, hk, veq, eqC_str, sok, leafV, inW, wRun, wGive, wZero, wKeep, wCall, wStatus, wPut, wOption, wFail, wPipes, wSeq, wPipe, wAnd, wOr, wWhile, wUntil, wNot, wSub, wIf, wTimes, wTrap, wEnd, wBreak, wNext, wReturn, wExit, hn b vb, hb c _ _ vc, hwd b _ _ vb, isi_bool vc, h1, h2, h3, h4, h5, h6, h7, h8, hw]; done)
  · have e2 : ¬ z = 2 := by simp at hz; omega
    have e3 : ¬ z = 3 := by simp at hz; omega
    rcases hwords with rfl | rfl | rfl | rfl | rfl | rfl | rfl | rfl | ⟨h1, h2, h3, h4, h5, h6, h7, h8⟩
    all_goals first
      | (simp [b_is_leaf, dSs, dS, dE, dEs, dB_one, dB_and, dB_or, ite_and, ite_or, dC, dI, dO, Res.bind, Res.toS, Res.ofO, Rs.toR, Rs.ofO, opC, eqL, asB, eqC_int, flat, sz0, sz1, sz2, sz3, sz4, sz5, sz6, sz7, opIn, opIx, atI1, atI2, dget, hk, veq, eqC_str, sok, leafV, inW, wRun, wGive, wZero, wKeep, wCall, wStatus, wPut, wOption, wFail, wPipes, wSeq, wPipe, wAnd, wOr, wWhile, wUntil, wNot, wSub, wIf, wTimes, wTrap, wEnd, wBreak, wNext, wReturn, wExit, e2, e3]; done)
      | (simp only [wRun, wGive, wZero, wKeep, wCall, wStatus, wPut, wOption, wFail, wPipes, wSeq, wPipe, wAnd, wOr, wWhile, wUntil, wNot, wSub, wIf, wTimes, wTrap, wEnd, wBreak, wNext, wReturn, wExit] at h1 h2 h3 h4 h5 h6 h7 h8; simp only [sok] at hw; simp [b_is_leaf, dSs, dS, dE, dEs, dB_one, dB_and, dB_or, ite_and, ite_or, dC, dI, dO, Res.bind, Res.toS, Res.ofO, Rs.toR, Rs.ofO, opC, eqL, asB, eqC_int, flat, sz0, sz1, sz2, sz3, sz4, sz5, sz6, sz7, opIn, opIx, atI1, atI2, dget, hk, veq, eqC_str, sok, leafV, inW, wRun, wGive, wZero, wKeep, wCall, wStatus, wPut, wOption, wFail, wPipes, wSeq, wPipe, wAnd, wOr, wWhile, wUntil, wNot, wSub, wIf, wTimes, wTrap, wEnd, wBreak, wNext, wReturn, wExit, e2, e3, h1, h2, h3, h4, h5, h6, h7, h8, hw]; done)
end K19
namespace K19
open PySem Dn Pr
theorem two_le (k : Nat) : ((2 : Int) ≤ (k : Int)) = (2 ≤ k) := by simp; omega
theorem nodeWords (w : W) : w = wSeq ∨ w = wPipe ∨ w = wAnd ∨ w = wOr ∨ w = wWhile ∨ w = wUntil ∨ w = wNot ∨ w = wSub ∨ w = wIf ∨ w = wTimes ∨ w = wTrap ∨ (¬ wSeq = w ∧ ¬ wPipe = w ∧ ¬ wAnd = w ∧ ¬ wOr = w ∧ ¬ wWhile = w ∧ ¬ wUntil = w ∧ ¬ wNot = w ∧ ¬ wSub = w ∧ ¬ w = wIf ∧ ¬ w = wTimes ∧ ¬ w = wTrap) := by
  by_cases h0 : w = wSeq
  · exact .inl h0
  by_cases h1 : w = wPipe
  · exact .inr (.inl h1)
  by_cases h2 : w = wAnd
  · exact .inr (.inr (.inl h2))
  by_cases h3 : w = wOr
  · exact .inr (.inr (.inr (.inl h3)))
  by_cases h4 : w = wWhile
  · exact .inr (.inr (.inr (.inr (.inl h4))))
  by_cases h5 : w = wUntil
  · exact .inr (.inr (.inr (.inr (.inr (.inl h5)))))
  by_cases h6 : w = wNot
  · exact .inr (.inr (.inr (.inr (.inr (.inr (.inl h6))))))
  by_cases h7 : w = wSub
  · exact .inr (.inr (.inr (.inr (.inr (.inr (.inr (.inl h7)))))))
  by_cases h8 : w = wIf
  · exact .inr (.inr (.inr (.inr (.inr (.inr (.inr (.inr (.inl h8))))))))
  by_cases h9 : w = wTimes
  · exact .inr (.inr (.inr (.inr (.inr (.inr (.inr (.inr (.inr (.inl h9)))))))))
  by_cases h10 : w = wTrap
  · exact .inr (.inr (.inr (.inr (.inr (.inr (.inr (.inr (.inr (.inr (.inl h10))))))))))
  exact .inr (.inr (.inr (.inr (.inr (.inr (.inr (.inr (.inr (.inr (.inr ⟨fun e => h0 e.symm, fun e => h1 e.symm, fun e => h2 e.symm, fun e => h3 e.symm, fun e => h4 e.symm, fun e => h5 e.symm, fun e => h6 e.symm, fun e => h7 e.symm, h8, h9, h10⟩))))))))))
theorem jumpWords (w : W) : w = wBreak ∨ w = wNext ∨ w = wReturn ∨ w = wExit ∨ (¬ wBreak = w ∧ ¬ wNext = w ∧ ¬ w = wReturn ∧ ¬ w = wExit) := by
  by_cases h0 : w = wBreak
  · exact .inl h0
  by_cases h1 : w = wNext
  · exact .inr (.inl h1)
  by_cases h2 : w = wReturn
  · exact .inr (.inr (.inl h2))
  by_cases h3 : w = wExit
  · exact .inr (.inr (.inr (.inl h3)))
  exact .inr (.inr (.inr (.inr ⟨fun e => h0 e.symm, fun e => h1 e.symm, h2, h3⟩)))
theorem is_node_ok (n : Nat) (w : W) (r : List Va) (M : Mem) (z : Int) (hz : z = ((Va.str w :: r).length : Nat)) (hv : voks r = true) (hw : sok w = true) :
    (orcN pg.fs (n + 4)).cl i_is_node [.tup (.str w :: r), .str w, .int z] M = .ok (.bl (nodeV w (.str w :: r))) M := by
  rw [c_is_node]
  have hb : ∀ v lo hi, vok v = true → (orcN pg.fs (n + 3)).cl 3 [v, .int lo, .int hi] M = .ok (.bl (betw v lo hi)) M := fun v lo hi h => is_between_ok (n + 1) v lo hi M h
  have hwd : ∀ v a b, vok v = true → (orcN pg.fs (n + 3)).cl 8 [v, .tup [.str a, .str b]] M = .ok (.bl (wordV [a, b] v)) M := fun v a b h => is_word2 (n + 2) v a b M h
  have hwords := nodeWords w
  rcases r with _ | ⟨b, _ | ⟨c, _ | ⟨d, _ | ⟨e, t⟩⟩⟩⟩
  · have e2 : z = 1 := by simp at hz; omega
    subst e2
    rcases hwords with rfl | rfl | rfl | rfl | rfl | rfl | rfl | rfl | rfl | rfl | rfl | ⟨h0, h1, h2, h3, h4, h5, h6, h7, h8, h9, h10⟩
    all_goals first
      | (simp [b_is_node, dSs, dS, dE, dEs, dB_one, dB_and, dB_or, ite_and, ite_or, dC, dI, dO, Res.bind, Res.toS, Res.ofO, Rs.toR, Rs.ofO, opC, eqL, asB, eqC_int, flat, sz0, sz1, sz2, sz3, sz4, sz5, sz6, sz7, opIn, opIx, opF, itemsS, atI1, atI2, atI3, veq, eqC_str, sok, nodeV, inW, wRun, wGive, wZero, wKeep, wCall, wStatus, wPut, wOption, wFail, wPipes, wSeq, wPipe, wAnd, wOr, wWhile, wUntil, wNot, wSub, wIf, wTimes, wTrap, wEnd, wBreak, wNext, wReturn, wExit, voks]; done)
      | (simp only [wRun, wGive, wZero, wKeep, wCall, wStatus, wPut, wOption, wFail, wPipes, wSeq, wPipe, wAnd, wOr, wWhile, wUntil, wNot, wSub, wIf, wTimes, wTrap, wEnd, wBreak, wNext, wReturn, wExit] at h0 h1 h2 h3 h4 h5 h6 h7 h8 h9 h10; simp only [sok] at hw; simp [b_is_node, dSs, dS, dE, dEs, dB_one, dB_and, dB_or, ite_and, ite_or, dC, dI, dO, Res.bind, Res.toS, Res.ofO, Rs.toR, Rs.ofO, opC, eqL, asB, eqC_int, flat, sz0, sz1, sz2, sz3, sz4, sz5, sz6, sz7, opIn, opIx, opF, itemsS, atI1, atI2, atI3, veq, eqC_str, sok, nodeV, inW, wRun, wGive, wZero, wKeep, wCall, wStatus, wPut, wOption, wFail, wPipes, wSeq, wPipe, wAnd, wOr, wWhile, wUntil, wNot, wSub, wIf, wTimes, wTrap, wEnd, wBreak, wNext, wReturn, wExit, voks, h0, h1, h2, h3, h4, h5, h6, h7, h8, h9, h10, hw]; done)
  · have e2 : z = 2 := by simp at hz; omega
    subst e2
    have vb : vok b = true := by simpa [voks] using hv
    rcases hwords with rfl | rfl | rfl | rfl | rfl | rfl | rfl | rfl | rfl | rfl | rfl | ⟨h0, h1, h2, h3, h4, h5, h6, h7, h8, h9, h10⟩
    all_goals first
      | (simp [b_is_node, dSs, dS, dE, dEs, dB_one, dB_and, dB_or, ite_and, ite_or, dC, dI, dO, Res.bind, Res.toS, Res.ofO, Rs.toR, Rs.ofO, opC, eqL, asB, eqC_int, flat, sz0, sz1, sz2, sz3, sz4, sz5, sz6, sz7, opIn, opIx, opF, itemsS, atI1, atI2, atI3, veq, eqC_str, sok, nodeV, inW, wRun, wGive, wZero, wKeep, wCall, wStatus, wPut, wOption, wFail, wPipes, wSeq, wPipe, wAnd, wOr, wWhile, wUntil, wNot, wSub, wIf, wTimes, wTrap, wEnd, wBreak, wNext, wReturn, wExit, hb _ _ _ vb, isi_tuple vb]; done)
      | (cases b <;> simp [b_is_node, dSs, dS, dE, dEs, dB_one, dB_and, dB_or, ite_and, ite_or, dC, dI, dO, Res.bind, Res.toS, Res.ofO, Rs.toR, Rs.ofO, opC, eqL, asB, eqC_int, flat, sz0, sz1, sz2, sz3, sz4, sz5, sz6, sz7, opIn, opIx, opF, itemsS, atI1, atI2, atI3, veq, eqC_str, sok, nodeV, inW, wRun, wGive, wZero, wKeep, wCall, wStatus, wPut, wOption, wFail, wPipes, wSeq, wPipe, wAnd, wOr, wWhile, wUntil, wNot, wSub, wIf, wTimes, wTrap, wEnd, wBreak, wNext, wReturn, wExit, hb _ _ _ vb, isi_tuple vb, tupV, two_le]; done)
      | (simp only [wRun, wGive, wZero, wKeep, wCall, wStatus, wPut, wOption, wFail, wPipes, wSeq, wPipe, wAnd, wOr, wWhile, wUntil, wNot, wSub, wIf, wTimes, wTrap, wEnd, wBreak, wNext, wReturn, wExit] at h0 h1 h2 h3 h4 h5 h6 h7 h8 h9 h10; simp only [sok] at hw; simp [b_is_node, dSs, dS, dE, dEs, dB_one, dB_and, dB_or, ite_and, ite_or, dC, dI, dO, Res.bind, Res.toS, Res.ofO, Rs.toR, Rs.ofO, opC, eqL, asB, eqC_int, flat, sz0, sz1, sz2, sz3, sz4, sz5, sz6, sz7, opIn, opIx, opF, itemsS, atI1, atI2, atI3, veq, eqC_str, sok, nodeV, inW, wRun, wGive, wZero, wKeep, wCall, wStatus, wPut, wOption, wFail, wPipes, wSeq, wPipe, wAnd, wOr, wWhile, wUntil, wNot, wSub, wIf, wTimes, wTrap, wEnd, wBreak, wNext, wReturn, wExit, hb _ _ _ vb, isi_tuple vb, h0, h1, h2, h3, h4, h5, h6, h7, h8, h9, h10, hw]; done)
  · have e3 : z = 3 := by simp at hz; omega
    subst e3
    have vb : vok b = true := by simp [voks] at hv; exact hv.1
    rcases hwords with rfl | rfl | rfl | rfl | rfl | rfl | rfl | rfl | rfl | rfl | rfl | ⟨h0, h1, h2, h3, h4, h5, h6, h7, h8, h9, h10⟩
    all_goals first
      | (simp [b_is_node, dSs, dS, dE, dEs, dB_one, dB_and, dB_or, ite_and, ite_or, dC, dI, dO, Res.bind, Res.toS, Res.ofO, Rs.toR, Rs.ofO, opC, eqL, asB, eqC_int, flat, sz0, sz1, sz2, sz3, sz4, sz5, sz6, sz7, opIn, opIx, opF, itemsS, atI1, atI2, atI3, veq, eqC_str, sok, nodeV, inW, wRun, wGive, wZero, wKeep, wCall, wStatus, wPut, wOption, wFail, wPipes, wSeq, wPipe, wAnd, wOr, wWhile, wUntil, wNot, wSub, wIf, wTimes, wTrap, wEnd, wBreak, wNext, wReturn, wExit, hb _ _ _ vb, hwd _ _ _ vb]; done)
      | (simp only [wRun, wGive, wZero, wKeep, wCall, wStatus, wPut, wOption, wFail, wPipes, wSeq, wPipe, wAnd, wOr, wWhile, wUntil, wNot, wSub, wIf, wTimes, wTrap, wEnd, wBreak, wNext, wReturn, wExit] at h0 h1 h2 h3 h4 h5 h6 h7 h8 h9 h10; simp only [sok] at hw; simp [b_is_node, dSs, dS, dE, dEs, dB_one, dB_and, dB_or, ite_and, ite_or, dC, dI, dO, Res.bind, Res.toS, Res.ofO, Rs.toR, Rs.ofO, opC, eqL, asB, eqC_int, flat, sz0, sz1, sz2, sz3, sz4, sz5, sz6, sz7, opIn, opIx, opF, itemsS, atI1, atI2, atI3, veq, eqC_str, sok, nodeV, inW, wRun, wGive, wZero, wKeep, wCall, wStatus, wPut, wOption, wFail, wPipes, wSeq, wPipe, wAnd, wOr, wWhile, wUntil, wNot, wSub, wIf, wTimes, wTrap, wEnd, wBreak, wNext, wReturn, wExit, hb _ _ _ vb, hwd _ _ _ vb, h0, h1, h2, h3, h4, h5, h6, h7, h8, h9, h10, hw]; done)
  · have e3 : z = 4 := by simp at hz; omega
    subst e3
    rcases hwords with rfl | rfl | rfl | rfl | rfl | rfl | rfl | rfl | rfl | rfl | rfl | ⟨h0, h1, h2, h3, h4, h5, h6, h7, h8, h9, h10⟩
    all_goals first
      | (simp [b_is_node, dSs, dS, dE, dEs, dB_one, dB_and, dB_or, ite_and, ite_or, dC, dI, dO, Res.bind, Res.toS, Res.ofO, Rs.toR, Rs.ofO, opC, eqL, asB, eqC_int, flat, sz0, sz1, sz2, sz3, sz4, sz5, sz6, sz7, opIn, opIx, opF, itemsS, atI1, atI2, atI3, veq, eqC_str, sok, nodeV, inW, wRun, wGive, wZero, wKeep, wCall, wStatus, wPut, wOption, wFail, wPipes, wSeq, wPipe, wAnd, wOr, wWhile, wUntil, wNot, wSub, wIf, wTimes, wTrap, wEnd, wBreak, wNext, wReturn, wExit, voks]; done)
      | (simp only [wRun, wGive, wZero, wKeep, wCall, wStatus, wPut, wOption, wFail, wPipes, wSeq, wPipe, wAnd, wOr, wWhile, wUntil, wNot, wSub, wIf, wTimes, wTrap, wEnd, wBreak, wNext, wReturn, wExit] at h0 h1 h2 h3 h4 h5 h6 h7 h8 h9 h10; simp only [sok] at hw; simp [b_is_node, dSs, dS, dE, dEs, dB_one, dB_and, dB_or, ite_and, ite_or, dC, dI, dO, Res.bind, Res.toS, Res.ofO, Rs.toR, Rs.ofO, opC, eqL, asB, eqC_int, flat, sz0, sz1, sz2, sz3, sz4, sz5, sz6, sz7, opIn, opIx, opF, itemsS, atI1, atI2, atI3, veq, eqC_str, sok, nodeV, inW, wRun, wGive, wZero, wKeep, wCall, wStatus, wPut, wOption, wFail, wPipes, wSeq, wPipe, wAnd, wOr, wWhile, wUntil, wNot, wSub, wIf, wTimes, wTrap, wEnd, wBreak, wNext, wReturn, wExit, voks, h0, h1, h2, h3, h4, h5, h6, h7, h8, h9, h10, hw]; done)
  · have e2 : ¬ z = 2 := by simp at hz; omega
    have e3 : ¬ z = 3 := by simp at hz; omega
    have e4 : ¬ z = 4 := by simp at hz; omega
    rcases hwords with rfl | rfl | rfl | rfl | rfl | rfl | rfl | rfl | rfl | rfl | rfl | ⟨h0, h1, h2, h3, h4, h5, h6, h7, h8, h9, h10⟩
    all_goals first
      | (simp [b_is_node, dSs, dS, dE, dEs, dB_one, dB_and, dB_or, ite_and, ite_or, dC, dI, dO, Res.bind, Res.toS, Res.ofO, Rs.toR, Rs.ofO, opC, eqL, asB, eqC_int, flat, sz0, sz1, sz2, sz3, sz4, sz5, sz6, sz7, opIn, opIx, opF, itemsS, atI1, atI2, atI3, veq, eqC_str, sok, nodeV, inW, wRun, wGive, wZero, wKeep, wCall, wStatus, wPut, wOption, wFail, wPipes, wSeq, wPipe, wAnd, wOr, wWhile, wUntil, wNot, wSub, wIf, wTimes, wTrap, wEnd, wBreak, wNext, wReturn, wExit, e2, e3, e4]; done)
      | (simp only [wRun, wGive, wZero, wKeep, wCall, wStatus, wPut, wOption, wFail, wPipes, wSeq, wPipe, wAnd, wOr, wWhile, wUntil, wNot, wSub, wIf, wTimes, wTrap, wEnd, wBreak, wNext, wReturn, wExit] at h0 h1 h2 h3 h4 h5 h6 h7 h8 h9 h10; simp only [sok] at hw; simp [b_is_node, dSs, dS, dE, dEs, dB_one, dB_and, dB_or, ite_and, ite_or, dC, dI, dO, Res.bind, Res.toS, Res.ofO, Rs.toR, Rs.ofO, opC, eqL, asB, eqC_int, flat, sz0, sz1, sz2, sz3, sz4, sz5, sz6, sz7, opIn, opIx, opF, itemsS, atI1, atI2, atI3, veq, eqC_str, sok, nodeV, inW, wRun, wGive, wZero, wKeep, wCall, wStatus, wPut, wOption, wFail, wPipes, wSeq, wPipe, wAnd, wOr, wWhile, wUntil, wNot, wSub, wIf, wTimes, wTrap, wEnd, wBreak, wNext, wReturn, wExit, e2, e3, e4, h0, h1, h2, h3, h4, h5, h6, h7, h8, h9, h10, hw]; done)

theorem is_jump_ok (n : Nat) (w : W) (r : List Va) (M : Mem) (z loops : Int) (within : Bool) (hz : z = ((Va.str w :: r).length : Nat)) (hv : voks r = true) (hw : sok w = true) :
    (orcN pg.fs (n + 4)).cl i_is_jump [.tup (.str w :: r), .str w, .int z, .int loops, .bl within] M = .ok (.bl (jumpV w (.str w :: r) loops within)) M := by
  rw [c_is_jump]
  have hb : ∀ v lo hi, vok v = true → (orcN pg.fs (n + 3)).cl 3 [v, .int lo, .int hi] M = .ok (.bl (betw v lo hi)) M := fun v lo hi h => is_between_ok (n + 1) v lo hi M h
  have hnn : ∀ v, vok v = true → (orcN pg.fs (n + 3)).cl 5 [v] M = .ok (.bl (numN v)) M := fun v h => is_number_or_none_ok n v M h
  have hwords := jumpWords w
  rcases r with _ | ⟨b, _ | ⟨c, t⟩⟩
  · have e2 : z = 1 := by simp at hz; omega
    subst e2
    rcases hwords with rfl | rfl | rfl | rfl | ⟨h0, h1, h2, h3⟩
    all_goals first
      | (simp [b_is_jump, dSs, dS, dE, dEs, dB_one, dB_and, dB_or, ite_and, ite_or, dC, dI, dO, Res.bind, Res.toS, Res.ofO, Rs.toR, Rs.ofO, opC, eqL, asB, eqC_int, flat, sz0, sz1, sz2, sz3, sz4, sz5, sz6, sz7, opIn, opIx, opF, itemsS, atI1, atI2, atI3, veq, eqC_str, sok, jumpV, inW, wRun, wGive, wZero, wKeep, wCall, wStatus, wPut, wOption, wFail, wPipes, wSeq, wPipe, wAnd, wOr, wWhile, wUntil, wNot, wSub, wIf, wTimes, wTrap, wEnd, wBreak, wNext, wReturn, wExit, voks]; done)
      | (simp only [wRun, wGive, wZero, wKeep, wCall, wStatus, wPut, wOption, wFail, wPipes, wSeq, wPipe, wAnd, wOr, wWhile, wUntil, wNot, wSub, wIf, wTimes, wTrap, wEnd, wBreak, wNext, wReturn, wExit] at h0 h1 h2 h3; simp only [sok] at hw; simp [b_is_jump, dSs, dS, dE, dEs, dB_one, dB_and, dB_or, ite_and, ite_or, dC, dI, dO, Res.bind, Res.toS, Res.ofO, Rs.toR, Rs.ofO, opC, eqL, asB, eqC_int, flat, sz0, sz1, sz2, sz3, sz4, sz5, sz6, sz7, opIn, opIx, opF, itemsS, atI1, atI2, atI3, veq, eqC_str, sok, jumpV, inW, wRun, wGive, wZero, wKeep, wCall, wStatus, wPut, wOption, wFail, wPipes, wSeq, wPipe, wAnd, wOr, wWhile, wUntil, wNot, wSub, wIf, wTimes, wTrap, wEnd, wBreak, wNext, wReturn, wExit, voks, h0, h1, h2, h3, hw]; done)
  · have e2 : z = 2 := by simp at hz; omega
    subst e2
    have vb : vok b = true := by simpa [voks] using hv
    rcases hwords with rfl | rfl | rfl | rfl | ⟨h0, h1, h2, h3⟩
    all_goals first
      | (simp [b_is_jump, dSs, dS, dE, dEs, dB_one, dB_and, dB_or, ite_and, ite_or, dC, dI, dO, Res.bind, Res.toS, Res.ofO, Rs.toR, Rs.ofO, opC, eqL, asB, eqC_int, flat, sz0, sz1, sz2, sz3, sz4, sz5, sz6, sz7, opIn, opIx, opF, itemsS, atI1, atI2, atI3, veq, eqC_str, sok, jumpV, inW, wRun, wGive, wZero, wKeep, wCall, wStatus, wPut, wOption, wFail, wPipes, wSeq, wPipe, wAnd, wOr, wWhile, wUntil, wNot, wSub, wIf, wTimes, wTrap, wEnd, wBreak, wNext, wReturn, wExit, hb _ _ _ vb, hnn _ vb]; done)
      | (simp only [wRun, wGive, wZero, wKeep, wCall, wStatus, wPut, wOption, wFail, wPipes, wSeq, wPipe, wAnd, wOr, wWhile, wUntil, wNot, wSub, wIf, wTimes, wTrap, wEnd, wBreak, wNext, wReturn, wExit] at h0 h1 h2 h3; simp only [sok] at hw; simp [b_is_jump, dSs, dS, dE, dEs, dB_one, dB_and, dB_or, ite_and, ite_or, dC, dI, dO, Res.bind, Res.toS, Res.ofO, Rs.toR, Rs.ofO, opC, eqL, asB, eqC_int, flat, sz0, sz1, sz2, sz3, sz4, sz5, sz6, sz7, opIn, opIx, opF, itemsS, atI1, atI2, atI3, veq, eqC_str, sok, jumpV, inW, wRun, wGive, wZero, wKeep, wCall, wStatus, wPut, wOption, wFail, wPipes, wSeq, wPipe, wAnd, wOr, wWhile, wUntil, wNot, wSub, wIf, wTimes, wTrap, wEnd, wBreak, wNext, wReturn, wExit, hb _ _ _ vb, hnn _ vb, h0, h1, h2, h3, hw]; done)
  · have e2 : ¬ z = 2 := by simp at hz; omega
    rcases hwords with rfl | rfl | rfl | rfl | ⟨h0, h1, h2, h3⟩
    all_goals first
      | (simp [b_is_jump, dSs, dS, dE, dEs, dB_one, dB_and, dB_or, ite_and, ite_or, dC, dI, dO, Res.bind, Res.toS, Res.ofO, Rs.toR, Rs.ofO, opC, eqL, asB, eqC_int, flat, sz0, sz1, sz2, sz3, sz4, sz5, sz6, sz7, opIn, opIx, opF, itemsS, atI1, atI2, atI3, veq, eqC_str, sok, jumpV, inW, wRun, wGive, wZero, wKeep, wCall, wStatus, wPut, wOption, wFail, wPipes, wSeq, wPipe, wAnd, wOr, wWhile, wUntil, wNot, wSub, wIf, wTimes, wTrap, wEnd, wBreak, wNext, wReturn, wExit, e2]; done)
      | (simp only [wRun, wGive, wZero, wKeep, wCall, wStatus, wPut, wOption, wFail, wPipes, wSeq, wPipe, wAnd, wOr, wWhile, wUntil, wNot, wSub, wIf, wTimes, wTrap, wEnd, wBreak, wNext, wReturn, wExit] at h0 h1 h2 h3; simp only [sok] at hw; simp [b_is_jump, dSs, dS, dE, dEs, dB_one, dB_and, dB_or, ite_and, ite_or, dC, dI, dO, Res.bind, Res.toS, Res.ofO, Rs.toR, Rs.ofO, opC, eqL, asB, eqC_int, flat, sz0, sz1, sz2, sz3, sz4, sz5, sz6, sz7, opIn, opIx, opF, itemsS, atI1, atI2, atI3, veq, eqC_str, sok, jumpV, inW, wRun, wGive, wZero, wKeep, wCall, wStatus, wPut, wOption, wFail, wPipes, wSeq, wPipe, wAnd, wOr, wWhile, wUntil, wNot, wSub, wIf, wTimes, wTrap, wEnd, wBreak, wNext, wReturn, wExit, e2, h0, h1, h2, h3, hw]; done)

end K19
namespace K19
open PySem Dn Pr
theorem kids_comp (o : Orc) (a b c d : Va) (M : Mem) : dE o e1_kids_of [some (.tup [a, b, c, d]), some (.str wIf), none] M = .ok (.lst ([d].filter fun v => !v.isNon)) M := by
  unfold e1_kids_of
  rw [comp_eq (.vals [d]) [d] (fun v => !v.isNon) (fun v => v) (by
    simp [dSs, dS, dE, dEs, dB_one, dB_and, dB_or, ite_and, ite_or, dC, dI, dO, Res.bind, Res.toS, Res.ofO, Rs.toR, Rs.ofO, opC, eqL, asB, eqC_int, flat, sz0, sz1, sz2, sz3, sz4, sz5, sz6, sz7, seqOf, opSl, cutA, HT.sIx]) (fun i => by simp [Itv.at]) (fun v hv => ⟨_, rfl, by simp [dSs, dS, dE, dEs, dB_one, dB_and, dB_or, ite_and, ite_or, dC, dI, dO, Res.bind, Res.toS, Res.ofO, Rs.toR, Rs.ofO, opC, eqL, asB, eqC_int, flat, sz0, sz1, sz2, sz3, sz4, sz5, sz6, sz7, wipeE], fun _ => by simp [dSs, dS, dE, dEs, dB_one, dB_and, dB_or, ite_and, ite_or, dC, dI, dO, Res.bind, Res.toS, Res.ofO, Rs.toR, Rs.ofO, opC, eqL, asB, eqC_int, flat, sz0, sz1, sz2, sz3, sz4, sz5, sz6, sz7, wipeE]⟩) (by simp [dSs, dS, dE, dEs, dB_one, dB_and, dB_or, ite_and, ite_or, dC, dI, dO, Res.bind, Res.toS, Res.ofO, Rs.toR, Rs.ofO, opC, eqL, asB, eqC_int, flat, sz0, sz1, sz2, sz3, sz4, sz5, sz6, sz7])]
  simp [finC]
theorem sz_of {k m : Nat} (h : k ≤ sizeLine) (e : m ≤ k) : m ≤ sizeLine := Nat.le_trans e h
theorem kids_ok (n : Nat) (w : W) (r : List Va) (M : Mem) (hv : vok (.tup (.str w :: r)) = true) (hs : nodeV w (.str w :: r) = true ∨ nodeW w = false) :
    (orcN pg.fs (n + 1)).cl i_kids_of [.tup (.str w :: r)] M = .ok (.lst (kidsV w (.str w :: r))) M := by
  rw [c_kids_of]
  have hw : sok w = true := by
    simp only [vok, voks, Bool.and_eq_true, decide_eq_true_eq] at hv
    exact hv.2.1.2
  have hwords := nodeWords w
  rcases hwords with rfl | rfl | rfl | rfl | rfl | rfl | rfl | rfl | rfl | rfl | rfl | ⟨h0, h1, h2, h3, h4, h5, h6, h7, h8, h9, h10⟩
  iterate 2
    · have hs : nodeV _ _ = true := hs.resolve_right (by decide)
      rcases r with _ | ⟨b, _ | ⟨c, t⟩⟩
      · simp [nodeV, inW, wRun, wGive, wZero, wKeep, wCall, wStatus, wPut, wOption, wFail, wPipes, wSeq, wPipe, wAnd, wOr, wWhile, wUntil, wNot, wSub, wIf, wTimes, wTrap, wEnd, wBreak, wNext, wReturn, wExit] at hs
      · cases b with
        | tup ys =>
          have hy : ys.length ≤ sizeLine := by
            simp only [vok, voks, Bool.and_eq_true, decide_eq_true_eq] at hv
            exact hv.2.2.1.1
          simp [b_kids_of, dSs, dS, dE, dEs, dB_one, dB_and, dB_or, ite_and, ite_or, dC, dI, dO, Res.bind, Res.toS, Res.ofO, Rs.toR, Rs.ofO, opC, eqL, asB, eqC_int, flat, sz0, sz1, sz2, sz3, sz4, sz5, sz6, sz7, opIn, opIx, opF, itemsS, newL, hy, atI0, atI1, veq, eqC_str, sok, kidsV, inW, wRun, wGive, wZero, wKeep, wCall, wStatus, wPut, wOption, wFail, wPipes, wSeq, wPipe, wAnd, wOr, wWhile, wUntil, wNot, wSub, wIf, wTimes, wTrap, wEnd, wBreak, wNext, wReturn, wExit]
        | _ => simp [nodeV, inW, wRun, wGive, wZero, wKeep, wCall, wStatus, wPut, wOption, wFail, wPipes, wSeq, wPipe, wAnd, wOr, wWhile, wUntil, wNot, wSub, wIf, wTimes, wTrap, wEnd, wBreak, wNext, wReturn, wExit] at hs
      · simp [nodeV, inW, wRun, wGive, wZero, wKeep, wCall, wStatus, wPut, wOption, wFail, wPipes, wSeq, wPipe, wAnd, wOr, wWhile, wUntil, wNot, wSub, wIf, wTimes, wTrap, wEnd, wBreak, wNext, wReturn, wExit] at hs
  iterate 4
    · have hs : nodeV _ _ = true := hs.resolve_right (by decide)
      rcases r with _ | ⟨b, _ | ⟨c, _ | ⟨d, t⟩⟩⟩
      · simp [nodeV, inW, wRun, wGive, wZero, wKeep, wCall, wStatus, wPut, wOption, wFail, wPipes, wSeq, wPipe, wAnd, wOr, wWhile, wUntil, wNot, wSub, wIf, wTimes, wTrap, wEnd, wBreak, wNext, wReturn, wExit] at hs
      · simp [nodeV, inW, wRun, wGive, wZero, wKeep, wCall, wStatus, wPut, wOption, wFail, wPipes, wSeq, wPipe, wAnd, wOr, wWhile, wUntil, wNot, wSub, wIf, wTimes, wTrap, wEnd, wBreak, wNext, wReturn, wExit] at hs
      · simp [b_kids_of, dSs, dS, dE, dEs, dB_one, dB_and, dB_or, ite_and, ite_or, dC, dI, dO, Res.bind, Res.toS, Res.ofO, Rs.toR, Rs.ofO, opC, eqL, asB, eqC_int, flat, sz0, sz1, sz2, sz3, sz4, sz5, sz6, sz7, opIn, opIx, newL, atI0, atI1, atI2, veq, eqC_str, sok, kidsV, inW, wRun, wGive, wZero, wKeep, wCall, wStatus, wPut, wOption, wFail, wPipes, wSeq, wPipe, wAnd, wOr, wWhile, wUntil, wNot, wSub, wIf, wTimes, wTrap, wEnd, wBreak, wNext, wReturn, wExit]
      · simp [nodeV, inW, wRun, wGive, wZero, wKeep, wCall, wStatus, wPut, wOption, wFail, wPipes, wSeq, wPipe, wAnd, wOr, wWhile, wUntil, wNot, wSub, wIf, wTimes, wTrap, wEnd, wBreak, wNext, wReturn, wExit] at hs
  iterate 2
    · have hs : nodeV _ _ = true := hs.resolve_right (by decide)
      rcases r with _ | ⟨b, _ | ⟨c, t⟩⟩
      · simp [nodeV, inW, wRun, wGive, wZero, wKeep, wCall, wStatus, wPut, wOption, wFail, wPipes, wSeq, wPipe, wAnd, wOr, wWhile, wUntil, wNot, wSub, wIf, wTimes, wTrap, wEnd, wBreak, wNext, wReturn, wExit] at hs
      · simp [b_kids_of, dSs, dS, dE, dEs, dB_one, dB_and, dB_or, ite_and, ite_or, dC, dI, dO, Res.bind, Res.toS, Res.ofO, Rs.toR, Rs.ofO, opC, eqL, asB, eqC_int, flat, sz0, sz1, sz2, sz3, sz4, sz5, sz6, sz7, opIn, opIx, newL, atI0, atI1, atI2, veq, eqC_str, sok, kidsV, inW, wRun, wGive, wZero, wKeep, wCall, wStatus, wPut, wOption, wFail, wPipes, wSeq, wPipe, wAnd, wOr, wWhile, wUntil, wNot, wSub, wIf, wTimes, wTrap, wEnd, wBreak, wNext, wReturn, wExit]
      · simp [nodeV, inW, wRun, wGive, wZero, wKeep, wCall, wStatus, wPut, wOption, wFail, wPipes, wSeq, wPipe, wAnd, wOr, wWhile, wUntil, wNot, wSub, wIf, wTimes, wTrap, wEnd, wBreak, wNext, wReturn, wExit] at hs
  · have hs : nodeV _ _ = true := hs.resolve_right (by decide)
    rcases r with _ | ⟨b, _ | ⟨c, _ | ⟨d, _ | ⟨e, t⟩⟩⟩⟩
    · simp [nodeV, inW, wRun, wGive, wZero, wKeep, wCall, wStatus, wPut, wOption, wFail, wPipes, wSeq, wPipe, wAnd, wOr, wWhile, wUntil, wNot, wSub, wIf, wTimes, wTrap, wEnd, wBreak, wNext, wReturn, wExit] at hs
    · simp [nodeV, inW, wRun, wGive, wZero, wKeep, wCall, wStatus, wPut, wOption, wFail, wPipes, wSeq, wPipe, wAnd, wOr, wWhile, wUntil, wNot, wSub, wIf, wTimes, wTrap, wEnd, wBreak, wNext, wReturn, wExit] at hs
    · simp [nodeV, inW, wRun, wGive, wZero, wKeep, wCall, wStatus, wPut, wOption, wFail, wPipes, wSeq, wPipe, wAnd, wOr, wWhile, wUntil, wNot, wSub, wIf, wTimes, wTrap, wEnd, wBreak, wNext, wReturn, wExit] at hs
    · have hc := kids_comp (orcN pg.fs n) (.str wIf) b c d M
      simp only [wIf] at hc
      cases hd : d.isNon with
      | true =>
        have hf : [d].filter (fun v => !v.isNon) = [] := by simp [hd]
        rw [hf] at hc
        simp [b_kids_of, dSs, dS, dE, dEs, dB_one, dB_and, dB_or, ite_and, ite_or, dC, dI, dO, Res.bind, Res.toS, Res.ofO, Rs.toR, Rs.ofO, opC, eqL, asB, eqC_int, flat, sz0, sz1, sz2, sz3, sz4, sz5, sz6, sz7, opIn, opIx, opB, itemsL, newL, hc, hd, hf, atI0, atI1, atI2, veq, eqC_str, sok, kidsV, inW, wRun, wGive, wZero, wKeep, wCall, wStatus, wPut, wOption, wFail, wPipes, wSeq, wPipe, wAnd, wOr, wWhile, wUntil, wNot, wSub, wIf, wTimes, wTrap, wEnd, wBreak, wNext, wReturn, wExit]
      | false =>
        have hf : [d].filter (fun v => !v.isNon) = [d] := by simp [hd]
        rw [hf] at hc
        simp [b_kids_of, dSs, dS, dE, dEs, dB_one, dB_and, dB_or, ite_and, ite_or, dC, dI, dO, Res.bind, Res.toS, Res.ofO, Rs.toR, Rs.ofO, opC, eqL, asB, eqC_int, flat, sz0, sz1, sz2, sz3, sz4, sz5, sz6, sz7, opIn, opIx, opB, itemsL, newL, hc, hd, hf, atI0, atI1, atI2, veq, eqC_str, sok, kidsV, inW, wRun, wGive, wZero, wKeep, wCall, wStatus, wPut, wOption, wFail, wPipes, wSeq, wPipe, wAnd, wOr, wWhile, wUntil, wNot, wSub, wIf, wTimes, wTrap, wEnd, wBreak, wNext, wReturn, wExit]
    · simp [nodeV, inW, wRun, wGive, wZero, wKeep, wCall, wStatus, wPut, wOption, wFail, wPipes, wSeq, wPipe, wAnd, wOr, wWhile, wUntil, wNot, wSub, wIf, wTimes, wTrap, wEnd, wBreak, wNext, wReturn, wExit] at hs
  · have hs : nodeV _ _ = true := hs.resolve_right (by decide)
    rcases r with _ | ⟨b, _ | ⟨c, _ | ⟨d, t⟩⟩⟩
    · simp [nodeV, inW, wRun, wGive, wZero, wKeep, wCall, wStatus, wPut, wOption, wFail, wPipes, wSeq, wPipe, wAnd, wOr, wWhile, wUntil, wNot, wSub, wIf, wTimes, wTrap, wEnd, wBreak, wNext, wReturn, wExit] at hs
    · simp [nodeV, inW, wRun, wGive, wZero, wKeep, wCall, wStatus, wPut, wOption, wFail, wPipes, wSeq, wPipe, wAnd, wOr, wWhile, wUntil, wNot, wSub, wIf, wTimes, wTrap, wEnd, wBreak, wNext, wReturn, wExit] at hs
    · simp [b_kids_of, dSs, dS, dE, dEs, dB_one, dB_and, dB_or, ite_and, ite_or, dC, dI, dO, Res.bind, Res.toS, Res.ofO, Rs.toR, Rs.ofO, opC, eqL, asB, eqC_int, flat, sz0, sz1, sz2, sz3, sz4, sz5, sz6, sz7, opIn, opIx, newL, atI0, atI1, atI2, veq, eqC_str, sok, kidsV, inW, wRun, wGive, wZero, wKeep, wCall, wStatus, wPut, wOption, wFail, wPipes, wSeq, wPipe, wAnd, wOr, wWhile, wUntil, wNot, wSub, wIf, wTimes, wTrap, wEnd, wBreak, wNext, wReturn, wExit]
    · simp [nodeV, inW, wRun, wGive, wZero, wKeep, wCall, wStatus, wPut, wOption, wFail, wPipes, wSeq, wPipe, wAnd, wOr, wWhile, wUntil, wNot, wSub, wIf, wTimes, wTrap, wEnd, wBreak, wNext, wReturn, wExit] at hs
  · have hs : nodeV _ _ = true := hs.resolve_right (by decide)
    rcases r with _ | ⟨b, _ | ⟨c, _ | ⟨d, t⟩⟩⟩
    · simp [nodeV, inW, wRun, wGive, wZero, wKeep, wCall, wStatus, wPut, wOption, wFail, wPipes, wSeq, wPipe, wAnd, wOr, wWhile, wUntil, wNot, wSub, wIf, wTimes, wTrap, wEnd, wBreak, wNext, wReturn, wExit] at hs
    · simp [nodeV, inW, wRun, wGive, wZero, wKeep, wCall, wStatus, wPut, wOption, wFail, wPipes, wSeq, wPipe, wAnd, wOr, wWhile, wUntil, wNot, wSub, wIf, wTimes, wTrap, wEnd, wBreak, wNext, wReturn, wExit] at hs
    · cases hd : c.isNon with
      | true => cases c <;> simp [Va.isNon] at hd; simp [b_kids_of, dSs, dS, dE, dEs, dB_one, dB_and, dB_or, ite_and, ite_or, dC, dI, dO, Res.bind, Res.toS, Res.ofO, Rs.toR, Rs.ofO, opC, eqL, asB, eqC_int, flat, sz0, sz1, sz2, sz3, sz4, sz5, sz6, sz7, Va.isNon, opIn, opIx, newL, atI0, atI1, atI2, veq, eqC_str, sok, kidsV, inW, wRun, wGive, wZero, wKeep, wCall, wStatus, wPut, wOption, wFail, wPipes, wSeq, wPipe, wAnd, wOr, wWhile, wUntil, wNot, wSub, wIf, wTimes, wTrap, wEnd, wBreak, wNext, wReturn, wExit]
      | false => cases c <;> first | (cases hd; done) | (simp [b_kids_of, dSs, dS, dE, dEs, dB_one, dB_and, dB_or, ite_and, ite_or, dC, dI, dO, Res.bind, Res.toS, Res.ofO, Rs.toR, Rs.ofO, opC, eqL, asB, eqC_int, flat, sz0, sz1, sz2, sz3, sz4, sz5, sz6, sz7, Va.isNon, opIn, opIx, newL, atI0, atI1, atI2, veq, eqC_str, sok, kidsV, inW, wRun, wGive, wZero, wKeep, wCall, wStatus, wPut, wOption, wFail, wPipes, wSeq, wPipe, wAnd, wOr, wWhile, wUntil, wNot, wSub, wIf, wTimes, wTrap, wEnd, wBreak, wNext, wReturn, wExit]; done)
    · simp [nodeV, inW, wRun, wGive, wZero, wKeep, wCall, wStatus, wPut, wOption, wFail, wPipes, wSeq, wPipe, wAnd, wOr, wWhile, wUntil, wNot, wSub, wIf, wTimes, wTrap, wEnd, wBreak, wNext, wReturn, wExit] at hs
  · simp only [wRun, wGive, wZero, wKeep, wCall, wStatus, wPut, wOption, wFail, wPipes, wSeq, wPipe, wAnd, wOr, wWhile, wUntil, wNot, wSub, wIf, wTimes, wTrap, wEnd, wBreak, wNext, wReturn, wExit] at h0 h1 h2 h3 h4 h5 h6 h7 h8 h9 h10
    simp only [sok] at hw
    have h8' : ¬ [105, 102] = w := fun e => h8 e.symm
    simp [b_kids_of, dSs, dS, dE, dEs, dB_one, dB_and, dB_or, ite_and, ite_or, dC, dI, dO, Res.bind, Res.toS, Res.ofO, Rs.toR, Rs.ofO, opC, eqL, asB, eqC_int, flat, sz0, sz1, sz2, sz3, sz4, sz5, sz6, sz7, opIn, opIx, newL, atI0, atI1, atI2, veq, eqC_str, sok, kidsV, inW, wRun, wGive, wZero, wKeep, wCall, wStatus, wPut, wOption, wFail, wPipes, wSeq, wPipe, wAnd, wOr, wWhile, wUntil, wNot, wSub, wIf, wTimes, wTrap, wEnd, wBreak, wNext, wReturn, wExit, h0, h1, h2, h3, h4, h5, h6, h7, h8, h9, h10, hw]
end K19
namespace K19
open PySem Dn Pr
def insO (nd : Nat) (cnt : Int) : Ob := .ins 0 [(2, .int cnt), (3, .ref nd)]
def lay (M : Mem) (c nd : Nat) (cnt : Int) (nms : Kn) : Mem := (M.set c (insO nd cnt)).set nd (.dic nms)
structure LayOk (M : Mem) (c nd : Nat) : Prop where
  ne : c ≠ nd
  hc : c < M.length
  hn : nd < M.length
section
variable {M : Mem} {c nd : Nat} (L : LayOk M c nd)
theorem lay_len (cnt : Int) (nms : Kn) : (lay M c nd cnt nms).length = M.length := by simp [lay]
include L
theorem lay_c (cnt : Int) (nms : Kn) : (lay M c nd cnt nms)[c]? = some (insO nd cnt) := by
  unfold lay
  rw [List.getElem?_set_ne L.ne.symm, List.getElem?_set_self L.hc]
theorem lay_n (cnt : Int) (nms : Kn) : (lay M c nd cnt nms)[nd]? = some (.dic nms) := by
  unfold lay
  rw [List.getElem?_set_self (by rw [List.length_set]; exact L.hn)]
omit L in
theorem lay_o {k : Nat} (h1 : k ≠ c) (h2 : k ≠ nd) (cnt : Int) (nms : Kn) : (lay M c nd cnt nms)[k]? = M[k]? := by
  unfold lay
  rw [List.getElem?_set_ne h2.symm, List.getElem?_set_ne h1.symm]
theorem lay_set_c (cnt cnt' : Int) (nms : Kn) : (lay M c nd cnt nms).set c (insO nd cnt') = lay M c nd cnt' nms := by
  unfold lay
  rw [List.set_comm _ _ L.ne.symm, List.set_set]
omit L in
theorem lay_set_n (cnt : Int) (nms nms' : Kn) : (lay M c nd cnt nms).set nd (.dic nms') = lay M c nd cnt nms' := by
  unfold lay
  rw [List.set_set]
end
def resP (M : Mem) (c nd : Nat) : Out → Res Va
  | ((cnt, nms), none) => .ok .non (lay M c nd cnt nms)
  | ((cnt, nms), some p) => .exc 4 (.tup p) (lay M c nd cnt nms)
theorem lookP_succ (kn : Kn) (k : Nat) (tree : Va) (path : List Va) (loops : Int) (within : Bool) (cnt : Int) (nms : Kn) : lookP kn (k + 1) tree path loops within (cnt, nms) =
    (if 3000 < cnt + 1 then ((cnt + 1, nms), some [])
    else if 60 < path.length then ((cnt + 1, nms), some path)
    else match tree with
      | .tup (.str w :: r) =>
        if leafV w (.str w :: r) kn || jumpV w (.str w :: r) loops within then
          (if inW w [wGive, wZero, wKeep, wPut] then match r with
            | .str s :: _ => ((cnt + 1, put nms (.inr s) (.bl true)), none)
            | _ => ((cnt + 1, nms), none)
          else ((cnt + 1, nms), none))
        else if nodeV w (.str w :: r) then kidsP (fun kid p st => lookP kn k kid p (loopsOf w loops) (withinOf w within) st) path 0 (kidsV w (.str w :: r)) (cnt + 1, nms)
        else ((cnt + 1, nms), some path)
      | _ => ((cnt + 1, nms), some path)) := rfl
/-! ### the statements of look -/
section
variable {M : Mem} {c nd kd : Nat} {kn : Kn} (L : LayOk M c nd)
theorem insO_eq (nd : Nat) (cnt : Int) : Ob.ins 0 [(2, .int cnt), (3, .ref nd)] = insO nd cnt := rfl
include L
theorem lk12 (o : Orc) (env : Dn.Env) (cnt : Int) (nms : Kn) : dS o s12_Checker_look (some (.ref c) :: env) (lay M c nd cnt nms) = .nx (some (.ref c) :: env) (lay M c nd (cnt + 1) nms) := by
  simp [s12_Checker_look, dSs, dS, dE, dEs, dB_one, dB_and, dB_or, ite_and, ite_or, dC, dI, dO, Res.bind, Res.toS, Res.ofO, Rs.toR, Rs.ofO, opC, eqL, asB, eqC_int, flat, sz0, sz1, sz2, sz3, sz4, sz5, sz6, sz7, fldOf, lay_c L, insO, Dn.look, augV, clsOf, setFld, Dn.put]
  simp only [insO_eq, lay_set_c L]
theorem lk13 (o : Orc) (env : Dn.Env) (cnt : Int) (nms : Kn) : dS o s13_Checker_look (some (.ref c) :: env) (lay M c nd cnt nms) = if 3000 < cnt then .exc 4 (.tup []) (some (.ref c) :: env) (lay M c nd cnt nms) else .nx (some (.ref c) :: env) (lay M c nd cnt nms) := by
  by_cases h : 3000 < cnt <;> simp [s13_Checker_look, s1_Checker_look, dSs, dS, dE, dEs, dB_one, dB_and, dB_or, ite_and, ite_or, dC, dI, dO, Res.bind, Res.toS, Res.ofO, Rs.toR, Rs.ofO, opC, eqL, asB, eqC_int, flat, sz0, sz1, sz2, sz3, sz4, sz5, sz6, sz7, fldOf, lay_c L, insO, Dn.look, h]
omit L
theorem lk14 (o : Orc) (a : Option Va) (tree : Va) (path : List Va) (env : Dn.Env) (M : Mem) (hv : vok tree = true) : dS o s14_Checker_look (a :: some tree :: some (.tup path) :: env) M =
    if 60 < path.length then .exc 4 (.tup path) (a :: some tree :: some (.tup path) :: env) M else match tree with
      | .tup (.str w :: r) => .nx (a :: some tree :: some (.tup path) :: env) M
      | _ => .exc 4 (.tup path) (a :: some tree :: some (.tup path) :: env) M := by
  by_cases h : 60 < path.length
  · have h' : (60 : Int) < path.length := by omega
    simp [s14_Checker_look, s2_Checker_look, dSs, dS, dE, dEs, dB_one, dB_and, dB_or, ite_and, ite_or, dC, dI, dO, Res.bind, Res.toS, Res.ofO, Rs.toR, Rs.ofO, opC, eqL, asB, eqC_int, flat, sz0, sz1, sz2, sz3, sz4, sz5, sz6, sz7, opF, itemsS, h, h']
  · have h' : ¬ (60 : Int) < path.length := by omega
    rw [if_neg h]
    cases tree with
    | tup xs =>
      cases xs with
      | nil => simp [s14_Checker_look, s2_Checker_look, dSs, dS, dE, dEs, dB_one, dB_and, dB_or, ite_and, ite_or, dC, dI, dO, Res.bind, Res.toS, Res.ofO, Rs.toR, Rs.ofO, opC, eqL, asB, eqC_int, flat, sz0, sz1, sz2, sz3, sz4, sz5, sz6, sz7, opF, itemsS, h', isi_tuple hv, tupV]
      | cons x r =>
        have hx : vok x = true := by
          simp only [vok, voks, Bool.and_eq_true] at hv
          exact hv.2.1
        have hl : ¬ ((r.length : Int) + 1 = 0) := by omega
        cases x with
        | str w => simp [s14_Checker_look, s2_Checker_look, dSs, dS, dE, dEs, dB_one, dB_and, dB_or, ite_and, ite_or, dC, dI, dO, Res.bind, Res.toS, Res.ofO, Rs.toR, Rs.ofO, opC, eqL, asB, eqC_int, flat, sz0, sz1, sz2, sz3, sz4, sz5, sz6, sz7, opF, itemsS, h', isi_tuple hv, tupV, opIx, atI0, isi_str hx, strV, hl]
        | _ => simp [s14_Checker_look, s2_Checker_look, dSs, dS, dE, dEs, dB_one, dB_and, dB_or, ite_and, ite_or, dC, dI, dO, Res.bind, Res.toS, Res.ofO, Rs.toR, Rs.ofO, opC, eqL, asB, eqC_int, flat, sz0, sz1, sz2, sz3, sz4, sz5, sz6, sz7, opF, itemsS, h', isi_tuple hv, tupV, opIx, atI0, isi_str hx, strV, hl]
    | _ => simp [s14_Checker_look, s2_Checker_look, dSs, dS, dE, dEs, dB_one, dB_and, dB_or, ite_and, ite_or, dC, dI, dO, Res.bind, Res.toS, Res.ofO, Rs.toR, Rs.ofO, opC, eqL, asB, eqC_int, flat, sz0, sz1, sz2, sz3, sz4, sz5, sz6, sz7, opF, itemsS, h', isi_tuple hv, tupV]
theorem lk15 (o : Orc) (a : Option Va) (w : W) (r : List Va) (p k l i : Option Va) (x y z u : Option Va) (M : Mem) : dS o s15_Checker_look [a, some (.tup (.str w :: r)), p, k, l, i, x, y, z, u] M =
    .nx [a, some (.tup (.str w :: r)), p, k, l, i, some (.str w), some (.int ((Va.str w :: r).length : Nat)), z, u] M := by
  simp [s15_Checker_look, dSs, dS, dE, dEs, dB_one, dB_and, dB_or, ite_and, ite_or, dC, dI, dO, Res.bind, Res.toS, Res.ofO, Rs.toR, Rs.ofO, opC, eqL, asB, eqC_int, flat, sz0, sz1, sz2, sz3, sz4, sz5, sz6, sz7, opF, itemsS, opIx, atI0]
theorem leaf_names {w : W} {r : List Va} {loops : Int} {within : Bool} (h : (leafV w (.str w :: r) kn || jumpV w (.str w :: r) loops within) = true) (hw : inW w [wGive, wZero, wKeep, wPut] = true) : ∃ s t, r = .str s :: t := by
  have hw' : w = wGive ∨ w = wZero ∨ w = wKeep ∨ w = wPut := by
    simp only [inW, List.any_cons, List.any_nil, Bool.or_false, Bool.or_eq_true, beq_iff_eq] at hw
    rcases hw with h | h | h | h
    · exact .inl h.symm
    · exact .inr (.inl h.symm)
    · exact .inr (.inr (.inl h.symm))
    · exact .inr (.inr (.inr h.symm))
  rcases r with _ | ⟨b, t⟩
  · rcases hw' with rfl | rfl | rfl | rfl <;> simp [leafV, jumpV, inW, wRun, wGive, wZero, wKeep, wCall, wStatus, wPut, wOption, wFail, wPipes, wSeq, wPipe, wAnd, wOr, wWhile, wUntil, wNot, wSub, wIf, wTimes, wTrap, wEnd, wBreak, wNext, wReturn, wExit] at h
  · cases b with
    | str s => exact ⟨s, t, rfl⟩
    | _ =>
      exfalso
      rcases t with _ | ⟨d, _ | ⟨e, t⟩⟩ <;> rcases hw' with rfl | rfl | rfl | rfl <;> simp [leafV, jumpV, inW, nameV, wRun, wGive, wZero, wKeep, wCall, wStatus, wPut, wOption, wFail, wPipes, wSeq, wPipe, wAnd, wOr, wWhile, wUntil, wNot, wSub, wIf, wTimes, wTrap, wEnd, wBreak, wNext, wReturn, wExit] at h
include L in
theorem lk16 (hk : M[kd]? = some (.dic kn)) (hkc : kd ≠ c) (hkn : kd ≠ nd) (n : Nat) (w : W) (r : List Va) (p : Option Va) (loops : Int) (within : Bool) (z u : Option Va) (cnt : Int) (nms : Kn) (hv : vok (.tup (.str w :: r)) = true) (hn : nms.length < sizeLine) :
    dS (orcN pg.fs (n + 4)) s16_Checker_look [some (.ref c), some (.tup (.str w :: r)), p, some (.ref kd), some (.int loops), some (.bl within), some (.str w), some (.int ((Va.str w :: r).length : Nat)), z, u] (lay M c nd cnt nms) =
    if (leafV w (.str w :: r) kn || jumpV w (.str w :: r) loops within) = true then
      (if inW w [wGive, wZero, wKeep, wPut] = true then match r with
        | .str s :: _ => .rt .non (lay M c nd cnt (Dn.put nms (.inr s) (.bl true)))
        | _ => .rt .non (lay M c nd cnt nms)
      else .rt .non (lay M c nd cnt nms))
    else .nx [some (.ref c), some (.tup (.str w :: r)), p, some (.ref kd), some (.int loops), some (.bl within), some (.str w), some (.int ((Va.str w :: r).length : Nat)), z, u] (lay M c nd cnt nms) := by
  have hv' := hv
  simp only [vok, voks, Bool.and_eq_true, decide_eq_true_eq] at hv'
  have e1 := is_leaf_ok n w r kd kn (lay M c nd cnt nms) _ rfl hv'.2.2 hv'.2.1.2 ((lay_o hkc hkn cnt nms).trans hk)
  have e2 := is_jump_ok n w r (lay M c nd cnt nms) _ loops within rfl hv'.2.2 hv'.2.1.2
  generalize hz : (((Va.str w :: r).length : Nat) : Int) = zz at e1 e2
  have hin : ([Va.str wGive, .str wZero, .str wKeep, .str wPut].any fun y => veq y (.str w)) = inW w [wGive, wZero, wKeep, wPut] := by simp [inW, veq]
  simp only [wRun, wGive, wZero, wKeep, wCall, wStatus, wPut, wOption, wFail, wPipes, wSeq, wPipe, wAnd, wOr, wWhile, wUntil, wNot, wSub, wIf, wTimes, wTrap, wEnd, wBreak, wNext, wReturn, wExit] at hin
  cases hl : leafV w (.str w :: r) kn || jumpV w (.str w :: r) loops within with
  | false => simp [s16_Checker_look, dSs, dS, dE, dEs, dB_one, dB_and, dB_or, ite_and, ite_or, dC, dI, dO, Res.bind, Res.toS, Res.ofO, Rs.toR, Rs.ofO, opC, eqL, asB, eqC_int, flat, sz0, sz1, sz2, sz3, sz4, sz5, sz6, sz7, e1, e2, hl]
  | true =>
    cases hw : inW w [wGive, wZero, wKeep, wPut] with
    | false =>
      have hw' := hw
      simp [inW, wRun, wGive, wZero, wKeep, wCall, wStatus, wPut, wOption, wFail, wPipes, wSeq, wPipe, wAnd, wOr, wWhile, wUntil, wNot, wSub, wIf, wTimes, wTrap, wEnd, wBreak, wNext, wReturn, wExit] at hw'
      simp [s16_Checker_look, s4_Checker_look, s5_Checker_look, dSs, dS, dE, dEs, dB_one, dB_and, dB_or, ite_and, ite_or, dC, dI, dO, Res.bind, Res.toS, Res.ofO, Rs.toR, Rs.ofO, opC, eqL, asB, eqC_int, flat, sz0, sz1, sz2, sz3, sz4, sz5, sz6, sz7, e1, e2, hl, opIn, veq, hw']
    | true =>
      obtain ⟨s, t, rfl⟩ := leaf_names hl hw
      have hw' := hw
      simp [inW, wRun, wGive, wZero, wKeep, wCall, wStatus, wPut, wOption, wFail, wPipes, wSeq, wPipe, wAnd, wOr, wWhile, wUntil, wNot, wSub, wIf, wTimes, wTrap, wEnd, wBreak, wNext, wReturn, wExit] at hw'
      simp [s16_Checker_look, s4_Checker_look, s3_Checker_look, s5_Checker_look, dSs, dS, dE, dEs, dB_one, dB_and, dB_or, ite_and, ite_or, dC, dI, dO, Res.bind, Res.toS, Res.ofO, Rs.toR, Rs.ofO, opC, eqL, asB, eqC_int, flat, sz0, sz1, sz2, sz3, sz4, sz5, sz6, sz7, e1, e2, hl, opIn, veq, hw', fldOf, lay_c L, lay_n L, insO, Dn.look, opIx, atI1, setAt, dput, hn, lay_set_n]
theorem lk17 (n : Nat) (w : W) (r : List Va) (a k : Option Va) (path : List Va) (loops : Int) (within : Bool) (z u : Option Va) (M : Mem) (hv : vok (.tup (.str w :: r)) = true) :
    dS (orcN pg.fs (n + 4)) s17_Checker_look [a, some (.tup (.str w :: r)), some (.tup path), k, some (.int loops), some (.bl within), some (.str w), some (.int ((Va.str w :: r).length : Nat)), z, u] M =
    if nodeV w (.str w :: r) = true then .nx [a, some (.tup (.str w :: r)), some (.tup path), k, some (.int loops), some (.bl within), some (.str w), some (.int ((Va.str w :: r).length : Nat)), z, u] M else .exc 4 (.tup path) [a, some (.tup (.str w :: r)), some (.tup path), k, some (.int loops), some (.bl within), some (.str w), some (.int ((Va.str w :: r).length : Nat)), z, u] M := by
  have hv' := hv
  simp only [vok, voks, Bool.and_eq_true, decide_eq_true_eq] at hv'
  have e1 := is_node_ok n w r M _ rfl hv'.2.2 hv'.2.1.2
  generalize hz : (((Va.str w :: r).length : Nat) : Int) = zz at e1
  cases hl : nodeV w (.str w :: r) <;> simp [s17_Checker_look, s6_Checker_look, dSs, dS, dE, dEs, dB_one, dB_and, dB_or, ite_and, ite_or, dC, dI, dO, Res.bind, Res.toS, Res.ofO, Rs.toR, Rs.ofO, opC, eqL, asB, eqC_int, flat, sz0, sz1, sz2, sz3, sz4, sz5, sz6, sz7, e1, hl]
theorem lk18 (o : Orc) (w : W) (r : List Va) (a k p : Option Va) (loops : Int) (within : Bool) (zz : Int) (z u : Option Va) (M : Mem) :
    dS o s18_Checker_look [a, some (.tup (.str w :: r)), p, k, some (.int loops), some (.bl within), some (.str w), some (.int zz), z, u] M =
    .nx [a, some (.tup (.str w :: r)), p, k, some (.int (if inW w [wWhile, wUntil, wTimes] = true then loops + 1 else loops)), some (.bl within), some (.str w), some (.int zz), z, u] M := by
  have hr : (g_LOOPS.any fun y => veq (.str y) (.str w)) = inW w [wWhile, wUntil, wTimes] := by
    simp only [veq]; rfl
  cases hl : inW w [wWhile, wUntil, wTimes] <;> simp [s18_Checker_look, s7_Checker_look, dSs, dS, dE, dEs, dB_one, dB_and, dB_or, ite_and, ite_or, dC, dI, dO, Res.bind, Res.toS, Res.ofO, Rs.toR, Rs.ofO, opC, eqL, asB, eqC_int, flat, sz0, sz1, sz2, sz3, sz4, sz5, sz6, sz7, hr, hl, augV]
theorem lk19 (o : Orc) (w : W) (r : List Va) (a k p : Option Va) (loops : Int) (within : Bool) (zz : Int) (z u : Option Va) (M : Mem) :
    dS o s19_Checker_look [a, some (.tup (.str w :: r)), p, k, some (.int loops), some (.bl within), some (.str w), some (.int zz), z, u] M =
    .nx [a, some (.tup (.str w :: r)), p, k, some (.int (if inW w [wSub, wPipe, wTrap] = true then 0 else loops)), some (.bl (if inW w [wSub, wPipe, wTrap] = true then false else within)), some (.str w), some (.int zz), z, u] M := by
  cases hl : inW w [wSub, wPipe, wTrap] with
  | true =>
    have hw' := hl
    simp [inW, wRun, wGive, wZero, wKeep, wCall, wStatus, wPut, wOption, wFail, wPipes, wSeq, wPipe, wAnd, wOr, wWhile, wUntil, wNot, wSub, wIf, wTimes, wTrap, wEnd, wBreak, wNext, wReturn, wExit] at hw'
    simp [s19_Checker_look, s8_Checker_look, dSs, dS, dE, dEs, dB_one, dB_and, dB_or, ite_and, ite_or, dC, dI, dO, Res.bind, Res.toS, Res.ofO, Rs.toR, Rs.ofO, opC, eqL, asB, eqC_int, flat, sz0, sz1, sz2, sz3, sz4, sz5, sz6, sz7, opIn, veq, hw', tgSet, tgsSet]
  | false =>
    have hw' := hl
    simp [inW, wRun, wGive, wZero, wKeep, wCall, wStatus, wPut, wOption, wFail, wPipes, wSeq, wPipe, wAnd, wOr, wWhile, wUntil, wNot, wSub, wIf, wTimes, wTrap, wEnd, wBreak, wNext, wReturn, wExit] at hw'
    simp [s19_Checker_look, s8_Checker_look, dSs, dS, dE, dEs, dB_one, dB_and, dB_or, ite_and, ite_or, dC, dI, dO, Res.bind, Res.toS, Res.ofO, Rs.toR, Rs.ofO, opC, eqL, asB, eqC_int, flat, sz0, sz1, sz2, sz3, sz4, sz5, sz6, sz7, opIn, veq, hw', tgSet, tgsSet]
theorem put_length (l : Kn) (k : Sum Int W) (v : Va) : (Dn.put l k v).length ≤ l.length + 1 := by
  induction l with
  | nil => simp [Dn.put]
  | cons q r ih =>
    obtain ⟨a, u⟩ := q
    unfold Dn.put
    split
    · simp
    · simp only [List.length_cons]; omega
/-- what is kept: no more names than trees; a bound -/
def StOk (st : St) : Prop := (st.2.length : Int) ≤ st.1
theorem kidsP_inv {f : Va → List Va → St → Out} (hf : ∀ v p st, StOk st → st.1 ≤ 3000 → StOk (f v p st).1 ∧ ((f v p st).2 = none → (f v p st).1.1 ≤ 3000)) (path : List Va) : ∀ (xs : List Va) (i : Nat) (st : St), StOk st → st.1 ≤ 3000 → StOk (kidsP f path i xs st).1 ∧ ((kidsP f path i xs st).2 = none → (kidsP f path i xs st).1.1 ≤ 3000)
  | [], i, st, h1, h2 => ⟨h1, fun _ => h2⟩
  | x :: xs, i, st, h1, h2 => by
    unfold kidsP
    obtain ⟨a1, a2⟩ := hf x (path ++ [.int (i : Nat)]) st h1 h2
    cases e : f x (path ++ [.int (i : Nat)]) st with
    | mk st' o =>
      rw [e] at a1 a2
      cases o with
      | none => exact kidsP_inv hf path xs (i + 1) st' a1 (a2 rfl)
      | some q => exact ⟨a1, fun z => by cases z⟩
theorem lookP_inv (kn : Kn) : ∀ (k : Nat) (tree : Va) (path : List Va) (loops : Int) (within : Bool) (st : St), StOk st → st.1 ≤ 3000 → StOk (lookP kn k tree path loops within st).1 ∧ ((lookP kn k tree path loops within st).2 = none → (lookP kn k tree path loops within st).1.1 ≤ 3000)
  | 0, tree, path, loops, within, st, h1, h2 => ⟨h1, fun _ => h2⟩
  | k + 1, tree, path, loops, within, (cnt, nms), h1, h2 => by
    rw [lookP_succ]
    have h1 : (nms.length : Int) ≤ cnt := h1
    have b1 : StOk (cnt + 1, nms) := by show (nms.length : Int) ≤ cnt + 1; omega
    by_cases g1 : 3000 < cnt + 1
    · rw [if_pos g1]
      exact ⟨b1, fun z => by cases z⟩
    · rw [if_neg g1]
      have b2 : cnt + 1 ≤ 3000 := by omega
      split
      · exact ⟨b1, fun z => by cases z⟩
      · split
        · rename_i w r
          split
          · split
            · split
              · refine ⟨?_, fun _ => b2⟩
                rename_i s t _
                have := put_length nms (.inr s) (.bl true)
                show ((Dn.put nms (.inr s) (.bl true)).length : Int) ≤ cnt + 1
                omega
              · exact ⟨b1, fun _ => b2⟩
            · exact ⟨b1, fun _ => b2⟩
          · split
            · exact kidsP_inv (fun v p st a b => lookP_inv kn k v p _ _ st a b) path _ 0 _ b1 b2
            · exact ⟨b1, fun z => by cases z⟩
        · exact ⟨b1, fun z => by cases z⟩
theorem kids_vok {w : W} {r : List Va} (hv : vok (.tup (.str w :: r)) = true) : vok (.lst (kidsV w (.str w :: r))) = true := by
  simp only [vok, voks, Bool.and_eq_true, decide_eq_true_eq] at hv
  obtain ⟨hl, _, hr⟩ := hv
  have n1 : ∀ b : Bool, vok (.lst []) = true := fun _ => by simp [vok, voks]
  unfold kidsV
  rcases r with _ | ⟨b, _ | ⟨c, _ | ⟨d, _ | ⟨e, t⟩⟩⟩⟩
  · dsimp only
    repeat' split
    all_goals first | (simp [vok, voks]; done) | (simp_all; done)
  · simp only [voks, Bool.and_eq_true] at hr
    cases b with
    | tup ys =>
      have h1 := hr.1
      simp only [vok, Bool.and_eq_true, decide_eq_true_eq] at h1
      dsimp only
      repeat' split
      all_goals first | (simp [vok, voks]; done) | (simp_all [vok, voks, sz1]; done)
    | _ =>
      dsimp only
      repeat' split
      all_goals first | (simp [vok, voks]; done) | (simp_all [vok, voks, sz1]; done)
  · simp only [voks, Bool.and_eq_true] at hr
    dsimp only
    repeat' split
    all_goals first | (simp [vok, voks]; done) | (simp_all [vok, voks, sz1, sz2]; done)
  · simp only [voks, Bool.and_eq_true] at hr
    dsimp only
    repeat' split
    all_goals first | (simp [vok, voks]; done) | (cases hd : d.isNon <;> simp_all [vok, voks, sz1, sz2, sz3]; done)
  · dsimp only
    repeat' split
    all_goals first | (simp [vok, voks]; done) | (simp_all; done)
end
end K19
namespace K19
open PySem Dn Pr
section
variable {M : Mem} {c nd kd : Nat} {kn : Kn}
def envL (c kd : Nat) (tree : Va) (path : List Va) (loops : Int) (within : Bool) (w : W) (zz : Int) (z u : Option Va) : Dn.Env := [some (.ref c), some tree, some (.tup path), some (.ref kd), some (.int loops), some (.bl within), some (.str w), some (.int zz), z, u]
def LoopOut (M : Mem) (c nd : Nat) (envf : Option Va → Option Va → Dn.Env) : Out → Rs → Prop
  | ((cnt, nms), none), r => ∃ z u, r = .nx (envf z u) (lay M c nd cnt nms)
  | ((cnt, nms), some p), r => ∃ env', r = .exc 4 (.tup p) env' (lay M c nd cnt nms)
theorem look_body (L : LayOk M c nd) {o : Orc} {f : Va → List Va → St → Out} {tree : Va} {path : List Va} {loops : Int} {within : Bool} {w : W} {zz : Int} {kid : Va} {i : Nat} {st : St} (hp : path.length ≤ 61)
    (H : o.cl 12 [.ref c, kid, .tup (path ++ [.int (i : Nat)]), .ref kd, .int loops, .bl within] (lay M c nd st.1 st.2) = resP M c nd (f kid (path ++ [.int (i : Nat)]) st)) :
    LoopOut M c nd (fun z u => envL c kd tree path loops within w zz z u) (f kid (path ++ [.int (i : Nat)]) st) (dSs o b10_Checker_look (envL c kd tree path loops within w zz (some (.int (i : Nat))) (some kid)) (lay M c nd st.1 st.2)) := by
  have hl : path.length + 1 ≤ sizeLine := by rw [sizeLine_eq']; omega
  cases e : f kid (path ++ [.int (i : Nat)]) st with
  | mk st' q =>
    obtain ⟨cnt', nms'⟩ := st'
    rw [e] at H
    cases q with
    | none =>
      refine ⟨some (.int (i : Nat)), some kid, ?_⟩
      simp [b10_Checker_look, s9_Checker_look, dSs, dS, dE, dEs, dB_one, dB_and, dB_or, ite_and, ite_or, dC, dI, dO, Res.bind, Res.toS, Res.ofO, Rs.toR, Rs.ofO, opC, eqL, asB, eqC_int, flat, sz0, sz1, sz2, sz3, sz4, sz5, sz6, sz7, envL, lay_c L, insO, opB, hl, H, resP]
    | some p =>
      refine ⟨envL c kd tree path loops within w zz (some (.int (i : Nat))) (some kid), ?_⟩
      simp [b10_Checker_look, s9_Checker_look, dSs, dS, dE, dEs, dB_one, dB_and, dB_or, ite_and, ite_or, dC, dI, dO, Res.bind, Res.toS, Res.ofO, Rs.toR, Rs.ofO, opC, eqL, asB, eqC_int, flat, sz0, sz1, sz2, sz3, sz4, sz5, sz6, sz7, envL, lay_c L, insO, opB, hl, H, resP]
theorem look_loop (L : LayOk M c nd) {o : Orc} {f : Va → List Va → St → Out} {tree : Va} {path : List Va} {loops : Int} {within : Bool} {w : W} {zz : Int} {kids : List Va} (hp : path.length ≤ 61) (tg : Tg) (htg : ∀ i v z u, tgSet tg (.tup [.int i, v]) (envL c kd tree path loops within w zz z u) = some (envL c kd tree path loops within w zz (some (.int i)) (some v)))
    (H : ∀ kid ∈ kids, ∀ i st, StOk st → st.1 ≤ 3000 → o.cl 12 [.ref c, kid, .tup (path ++ [.int (i : Nat)]), .ref kd, .int loops, .bl within] (lay M c nd st.1 st.2) = resP M c nd (f kid (path ++ [.int (i : Nat)]) st))
    (hf : ∀ v p st, StOk st → st.1 ≤ 3000 → StOk (f v p st).1 ∧ ((f v p st).2 = none → (f v p st).1.1 ≤ 3000)) :
    ∀ (k i : Nat) (st : St) (z u : Option Va), kids.length < k + i → i ≤ kids.length → StOk st → st.1 ≤ 3000 →
      LoopOut M c nd (fun z u => envL c kd tree path loops within w zz z u) (kidsP f path i (kids.drop i) st) (forL (.enu kids) (tgSet tg) (fun env M => dSs o b10_Checker_look env M) k i (envL c kd tree path loops within w zz z u) (lay M c nd st.1 st.2))
  | 0, i, st, z, u, h1, h2, h3, h4 => by omega
  | k + 1, i, st, z, u, h1, h2, h3, h4 => by
    by_cases hi : i < kids.length
    · have e : kids[i]? = some kids[i] := List.getElem?_eq_getElem hi
      have ed : kids.drop i = kids[i] :: kids.drop (i + 1) := List.drop_eq_getElem_cons hi
      have hb := look_body (tree := tree) (w := w) (zz := zz) L hp (H _ (List.getElem_mem hi) i st h3 h4)
      obtain ⟨a1, a2⟩ := hf kids[i] (path ++ [.int (i : Nat)]) st h3 h4
      rw [ed]
      unfold kidsP
      cases e2 : f kids[i] (path ++ [.int (i : Nat)]) st with
      | mk st' q =>
        rw [e2] at hb a1 a2
        obtain ⟨cnt', nms'⟩ := st'
        cases q with
        | none =>
          obtain ⟨z', u', hb⟩ := hb
          rw [forL_next (by simp only [Itv.at, e, Option.map_some]) (htg _ _ _ _) hb]
          exact look_loop L hp tg htg H hf k (i + 1) (cnt', nms') z' u' (by omega) hi a1 (a2 rfl)
        | some p =>
          obtain ⟨env', hb⟩ := hb
          rw [forL_exc (by simp only [Itv.at, e, Option.map_some]) (htg _ _ _ _) hb]
          exact ⟨env', rfl⟩
    · have e : kids[i]? = none := List.getElem?_eq_none (by omega)
      rw [List.drop_eq_nil_of_le (by omega), forL_stop (by simp only [Itv.at, e, Option.map_none])]
      exact ⟨z, u, rfl⟩
theorem look_l11 {o : Orc} {w : W} {r : List Va} {path : List Va} {loops : Int} {within : Bool} {zz : Int} {z u : Option Va} {M' : Mem} (ek : o.cl 6 [.tup (.str w :: r)] M' = .ok (.lst (kidsV w (.str w :: r))) M') :
    ∃ tg, (∀ i v z u, tgSet tg (.tup [.int i, v]) (envL c kd (.tup (.str w :: r)) path loops within w zz z u) = some (envL c kd (.tup (.str w :: r)) path loops within w zz (some (.int i)) (some v))) ∧
      dS o l11_Checker_look (envL c kd (.tup (.str w :: r)) path loops within w zz z u) M' = forL (.enu (kidsV w (.str w :: r))) (tgSet tg) (fun env M => dSs o b10_Checker_look env M) fuelW 0 (envL c kd (.tup (.str w :: r)) path loops within w zz z u) M' := by
  refine ⟨tgOf l11_Checker_look, fun i v z u => by simp [tgOf, l11_Checker_look, tgSet, tgsSet, envL], ?_⟩
  · unfold l11_Checker_look
    simp only [tgOf, dS, dI, dE, dEs, envL, List.getElem?_cons_zero, List.getElem?_cons_succ, Res.bind, ek, enuOf, Res.ofO, Res.toS]
theorem look_s20 (o : Orc) (env : Dn.Env) (M : Mem) : dS o s20_Checker_look env M = .rt .non M := rfl
theorem look_ok (L : LayOk M c nd) (hk : M[kd]? = some (.dic kn)) (hkc : kd ≠ c) (hkn : kd ≠ nd) : ∀ (k n : Nat) (tree : Va) (path : List Va) (loops : Int) (within : Bool) (st : St), vok tree = true → 62 ≤ path.length + k → path.length ≤ 61 → StOk st → st.1 ≤ 3000 →
    (orcN pg.fs (n + k + 5)).cl 12 [.ref c, tree, .tup path, .ref kd, .int loops, .bl within] (lay M c nd st.1 st.2) = resP M c nd (lookP kn k tree path loops within st)
  | 0, n, tree, path, loops, within, st, hv, h1, h2, h3, h4 => by omega
  | k + 1, n, tree, path, loops, within, (cnt, nms), hv, h1, h2, h3, h4 => by
    rw [show n + (k + 1) + 5 = (n + k + 5) + 1 by omega, c_Checker_look, lookP_succ]
    have h3' : (nms.length : Int) ≤ cnt := h3
    have h4' : cnt ≤ 3000 := h4
    have b1 : StOk (cnt + 1, nms) := by show (nms.length : Int) ≤ cnt + 1; omega
    unfold b_Checker_look
    simp only [dSs, lk12 L, lk13 L]
    by_cases g1 : 3000 < cnt + 1
    · rw [if_pos g1, if_pos g1]
      rfl
    · rw [if_neg g1, if_neg g1]
      simp only [lk14 _ _ _ _ _ _ hv]
      by_cases g2 : 60 < path.length
      · rw [if_pos g2, if_pos g2]
        rfl
      · rw [if_neg g2, if_neg g2]
        cases tree with
        | tup xs =>
          cases xs with
          | nil => rfl
          | cons x r =>
            cases x with
            | str w =>
              have hsz : nms.length < sizeLine := by rw [sizeLine_eq']; omega
              simp only [lk15, show n + k + 5 = (n + k + 1) + 4 by omega, lk16 L hk hkc hkn _ _ _ _ _ _ _ _ _ _ hv hsz]
              cases g3 : leafV w (.str w :: r) kn || jumpV w (.str w :: r) loops within with
              | true =>
                rw [if_pos rfl, if_pos rfl]
                cases g4 : inW w [wGive, wZero, wKeep, wPut] with
                | true =>
                  obtain ⟨s, t, rfl⟩ := leaf_names g3 g4
                  rfl
                | false => rfl
              | false =>
                rw [if_neg Bool.false_ne_true, if_neg Bool.false_ne_true]
                simp only [lk17 _ _ _ _ _ _ _ _ _ _ _ hv]
                cases g5 : nodeV w (.str w :: r) with
                | false => rfl
                | true =>
                  rw [if_pos rfl, if_pos rfl]
                  simp only [lk18, lk19]
                  have ek := kids_ok (n + k + 4) w r (lay M c nd (cnt + 1) nms) hv (.inl g5)
                  have hkv := kids_vok hv
                  simp only [vok, Bool.and_eq_true, decide_eq_true_eq] at hkv
                  obtain ⟨tg, htg, hl11⟩ := look_l11 (c := c) (kd := kd) (path := path) (loops := loopsOf w loops) (within := withinOf w within) (zz := ((Va.str w :: r).length : Nat)) (z := none) (u := none) ek
                  have hloop := look_loop (M := M) (c := c) (nd := nd) (kd := kd) (tree := .tup (.str w :: r)) (w := w) (zz := ((Va.str w :: r).length : Nat)) (kids := kidsV w (.str w :: r)) (o := orcN pg.fs (n + k + 5)) (f := fun kid p st => lookP kn k kid p (loopsOf w loops) (withinOf w within) st) (path := path) (loops := loopsOf w loops) (within := withinOf w within) L h2
                    tg htg
                    (fun kid hkid i st a b => look_ok L hk hkc hkn k n kid (path ++ [.int (i : Nat)]) _ _ st (voks_mem hkv.2 hkid) (by rw [List.length_append, List.length_singleton]; omega) (by rw [List.length_append, List.length_singleton]; omega) a b)
                    (fun v p st a b => lookP_inv kn k v p _ _ st a b) fuelW 0 (cnt + 1, nms) none none (by unfold fuelW; have := hkv.1; rw [sizeLine_eq'] at this; omega) (Nat.zero_le _) b1 (by show cnt + 1 ≤ 3000; omega)
                  have henv : envL c kd (.tup (.str w :: r)) path (loopsOf w loops) (withinOf w within) w ((Va.str w :: r).length : Nat) none none = [some (.ref c), some (.tup (.str w :: r)), some (.tup path), some (.ref kd), some (.int (if inW w [wSub, wPipe, wTrap] = true then 0 else if inW w [wWhile, wUntil, wTimes] = true then loops + 1 else loops)), some (.bl (if inW w [wSub, wPipe, wTrap] = true then false else within)), some (.str w), some (.int ((Va.str w :: r).length : Nat)), none, none] := rfl
                  rw [henv] at hl11 hloop
                  rw [show n + k + 1 + 4 = n + k + 5 by omega, hl11]
                  rw [List.drop_zero] at hloop
                  cases e6 : kidsP (fun kid p st => lookP kn k kid p (loopsOf w loops) (withinOf w within) st) path 0 (kidsV w (.str w :: r)) (cnt + 1, nms) with
                  | mk st' q =>
                    rw [e6] at hloop
                    obtain ⟨cnt', nms'⟩ := st'
                    cases q with
                    | none =>
                      obtain ⟨z, u, hloop⟩ := hloop
                      rw [hloop]
                      rfl
                    | some p =>
                      obtain ⟨env', hloop⟩ := hloop
                      rw [hloop]
                      rfl
            | _ => rfl
        | _ => rfl
end
end K19
namespace K19
open PySem Dn Pr
def intO : Option Int → Va
  | some z => .int z
  | none => .non
theorem ints_sum {f : Va → Option Int} : ∀ {l : List Va} {t : Int}, sumO (l.map f) = some t → ∃ ns, intsOf (l.map fun v => intO (f v)) = some ns ∧ ns.sum = t
  | [], t, h => by cases h; exact ⟨[], rfl, rfl⟩
  | a :: l, t, h => by
    rw [List.map_cons] at h
    cases e : f a with
    | none => rw [e] at h; cases h
    | some z =>
      rw [e, sumO] at h
      obtain ⟨y, h1, h2⟩ := Option.map_eq_some_iff.mp h
      obtain ⟨ns, h3, h4⟩ := ints_sum h1
      exact ⟨z :: ns, by rw [List.map_cons, e]; show Option.map (z :: ·) (intsOf _) = _; rw [h3]; rfl, by rw [List.sum_cons, h4]; exact h2⟩
theorem sumO_each {f : Va → Option Int} : ∀ {l : List Va} {t : Int}, sumO (l.map f) = some t → ∀ v ∈ l, ∃ z, f v = some z
  | a :: l, t, h, v, hv => by
    rw [List.map_cons] at h
    cases e : f a with
    | none => rw [e] at h; cases h
    | some z =>
      rw [e, sumO] at h
      obtain ⟨y, h1, h2⟩ := Option.map_eq_some_iff.mp h
      rcases List.mem_cons.mp hv with q | hv
      · rw [q]; exact ⟨z, e⟩
      · exact sumO_each h1 v hv
theorem sok_of {w : W} {r : List Va} (hv : vok (.tup (.str w :: r)) = true) : sok w = true := by
  simp only [vok, voks, Bool.and_eq_true, decide_eq_true_eq] at hv
  exact hv.2.1.2
theorem size_ok {sd : Nat} {sz : Kn} {M : Mem} (hs : M[sd]? = some (.dic sz)) : ∀ (k n : Nat) (tree : Va) (z : Int), vok tree = true → sizeP sz k tree = some z → (orcN pg.fs (n + k + 1)).cl 14 [tree, .ref sd] M = .ok (.int z) M
  | 0, n, tree, z, hv, h => by cases h
  | k + 1, n, tree, z, hv, h => by
    rw [show n + (k + 1) + 1 = (n + k + 1) + 1 by omega, c_size_of]
    unfold sizeP at h
    split at h
    · rename_i w r
      split at h
      · rename_i hn
        split at h
        · cases h
        · rename_i t ht
          have hnode : nodeV w (.str w :: r) = true ∨ nodeW w = false := by
            rw [Bool.or_eq_true] at hn
            exact hn.imp id fun q => by simpa using q
          have ek := kids_ok (n + k) w r M hv hnode
          have hkv := kids_vok hv
          simp only [vok, Bool.and_eq_true, decide_eq_true_eq] at hkv
          have hw := sok_of hv
          obtain ⟨ns, hns, hsum⟩ := ints_sum ht
          have hc : dE (orcN pg.fs (n + k + 1)) e1_size_of [some (.tup (.str w :: r)), some (.ref sd), none, none] M = .ok (.lst ((kidsV w (.str w :: r)).map fun v => intO (sizeP sz k v))) M := by
            unfold e1_size_of
            rw [comp_map (.vals (kidsV w (.str w :: r))) (kidsV w (.str w :: r)) (fun v => intO (sizeP sz k v)) (by simp [dSs, dS, dE, dEs, dB_one, dB_and, dB_or, ite_and, ite_or, dC, dI, dO, Res.bind, Res.toS, Res.ofO, Rs.toR, Rs.ofO, opC, eqL, asB, eqC_int, flat, sz0, sz1, sz2, sz3, sz4, sz5, sz6, sz7, ek, seqOf]) (fun i => rfl) (fun v hvm => by
              obtain ⟨y, hy⟩ := sumO_each ht v hvm
              have := size_ok hs k n v y (voks_mem hkv.2 hvm) hy
              exact ⟨_, rfl, by simp [dSs, dS, dE, dEs, dB_one, dB_and, dB_or, ite_and, ite_or, dC, dI, dO, Res.bind, Res.toS, Res.ofO, Rs.toR, Rs.ofO, opC, eqL, asB, eqC_int, flat, sz0, sz1, sz2, sz3, sz4, sz5, sz6, sz7, wipeE, this, hy, intO]⟩) hkv.1]
            rfl
          cases hcall : (w == wCall) with
          | true =>
            have e := eq_of_beq hcall
            subst e
            rw [if_pos hcall] at h
            rcases r with _ | ⟨b, r⟩
            · cases h
            · cases b with
              | str s =>
                dsimp only at h
                split at h
                · rename_i y hy
                  cases h
                  simp only [wCall] at hc hns
                  simp [b_size_of, dSs, dS, dE, dEs, dB_one, dB_and, dB_or, ite_and, ite_or, dC, dI, dO, Res.bind, Res.toS, Res.ofO, Rs.toR, Rs.ofO, opC, eqL, asB, eqC_int, flat, sz0, sz1, sz2, sz3, sz4, sz5, sz6, sz7, hc, opF, itemsL, hns, opB, opIx, atI0, atI1, eqC_str, sok, wCall, hs, dget, hy]
                · cases h
              | _ => cases h
          | false =>
            rw [if_neg (by rw [hcall]; exact Bool.false_ne_true)] at h
            have hc1 : ¬ w = [99, 97, 108, 108] := by simpa [wCall] using hcall
            cases htm : (w == wTimes) with
            | true =>
              have e := eq_of_beq htm
              subst e
              rw [if_pos htm] at h
              rcases r with _ | ⟨b, r⟩
              · cases h
              · cases b with
                | int i =>
                  dsimp only at h
                  split at h
                  · rename_i hi
                    cases h
                    have hm : mulOk i ns.sum = true := by unfold mulOk; rw [hi]; rfl
                    have hm' : mulOk i t = true := by rw [← hsum]; exact hm
                    have ha : 1 + t - 1 = t := by omega
                    simp only [wTimes] at hc hns
                    simp [b_size_of, dSs, dS, dE, dEs, dB_one, dB_and, dB_or, ite_and, ite_or, dC, dI, dO, Res.bind, Res.toS, Res.ofO, Rs.toR, Rs.ofO, opC, eqL, asB, eqC_int, flat, sz0, sz1, sz2, sz3, sz4, sz5, sz6, sz7, hc, opF, itemsL, hns, opB, opIx, atI0, atI1, eqC_str, sok, wTimes, hm', hsum, ha]
                  · cases h
                | _ => cases h
            | false =>
              rw [if_neg (by rw [htm]; exact Bool.false_ne_true)] at h
              have hc2 : ¬ w = [116, 105, 109, 101, 115] := by simpa [wTimes] using htm
              cases h
              simp only [sok] at hw
              have htm' : (w == [116, 105, 109, 101, 115]) = false := htm
              simp [b_size_of, dSs, dS, dE, dEs, dB_one, dB_and, dB_or, ite_and, ite_or, dC, dI, dO, Res.bind, Res.toS, Res.ofO, Rs.toR, Rs.ofO, opC, eqL, asB, eqC_int, flat, sz0, sz1, sz2, sz3, sz4, sz5, sz6, sz7, hc, opF, itemsL, hns, opB, opIx, atI0, atI1, eqC_str, sok, hw, hc1, htm', hsum]
      · cases h
    · cases h
end K19
namespace K19
open PySem Dn Pr
def tl (M : Mem) (F Wr : Nat) (fs ws : List Va) : Mem := (M.set F (.lst fs)).set Wr (.lst ws)
section
variable {M : Mem} {F Wr : Nat} (hne : F ≠ Wr) (hF : F < M.length) (hW : Wr < M.length)
include hne hF in
theorem tl_F (fs ws : List Va) : (tl M F Wr fs ws)[F]? = some (.lst fs) := by
  unfold tl
  rw [List.getElem?_set_ne hne.symm, List.getElem?_set_self hF]
include hW in
theorem tl_W (fs ws : List Va) : (tl M F Wr fs ws)[Wr]? = some (.lst ws) := by
  unfold tl
  rw [List.getElem?_set_self (by rw [List.length_set]; exact hW)]
include hne in
theorem tl_set_F (fs fs' ws : List Va) : (tl M F Wr fs ws).set F (.lst fs') = tl M F Wr fs' ws := by
  unfold tl
  rw [List.set_comm _ _ hne.symm, List.set_set]
theorem tl_set_W (fs ws ws' : List Va) : (tl M F Wr fs ws).set Wr (.lst ws') = tl M F Wr fs ws' := by
  unfold tl
  rw [List.set_set]
theorem tl_len (fs ws : List Va) : (tl M F Wr fs ws).length = M.length := by simp [tl]
end
theorem atI_lt {xs : List Va} {i : Nat} (h : i < xs.length) : L2.atI xs (i : Int) = some xs[i] := by
  unfold L2.atI L2.ixN
  have h1 : ¬ ((i : Int) < 0) := by omega
  simp [h1, h]
theorem tr_comp {o : Orc} {M : Mem} {k : Nat} {path kids : List Va} {x0 x1 x2 x3 x4 x6 x8 x9 : Option Va} (hl : kids.length ≤ sizeLine) (hp : path.length ≤ 100) :
    dE o e2_trees_of [x0, x1, x2, x3, x4, some (.tup path), x6, some (.lst kids), x8, x9] M = .ok (.lst ((kidEnts k path 0 kids).reverse.map entV)) M := by
  have hl' : (kids.length : Int) ≤ 16777216 := by rw [sizeLine_eq'] at hl; omega
  have hp' : path.length + 1 ≤ sizeLine := by rw [sizeLine_eq']; omega
  unfold e2_trees_of
  rw [comp_map (.rng ((kids.length : Int) - 1) (-1) kids.length) ((List.range kids.length).map fun i => Va.int ((kids.length : Int) - 1 + (i : Nat) * (-1)))
    (fun v => match v with
      | .int p => .tup [.tup (path ++ [.int p]), (kids[p.toNat]?).getD .non]
      | _ => .non) ?_ ?_ ?_ (by simpa using hl)]
  · unfold finC
    simp only [Bool.false_eq_true, if_false]
    congr 2
    apply List.ext_getElem?
    intro j
    simp only [List.getElem?_map]
    by_cases hj : j < kids.length
    · rw [List.getElem?_range hj, List.getElem?_reverse (by rw [kidEnts_len]; exact hj), kidEnts_len, kidEnts_get]
      have e1 : kids.length - 1 - j < kids.length := by omega
      have e2 : ((kids.length : Int) - 1 + (j : Nat) * (-1)) = ((kids.length - 1 - j : Nat) : Int) := by omega
      simp only [Option.map_some, List.getElem?_eq_getElem e1, e2, Int.toNat_natCast, entV, Nat.zero_add, Option.getD_some]
    · rw [List.getElem?_eq_none (by simpa using hj), List.getElem?_eq_none (by simpa [kidEnts_len] using hj)]
      rfl
  · have e : ((kids.length : Int) - 1 - -1).toNat = kids.length := by omega
    simp [dSs, dS, dE, dEs, dB_one, dB_and, dB_or, ite_and, ite_or, dC, dI, dO, Res.bind, Res.toS, Res.ofO, Rs.toR, Rs.ofO, opC, eqL, asB, eqC_int, flat, sz0, sz1, sz2, sz3, sz4, sz5, sz6, sz7, opF, itemsS, itemsL, opB, rangeOf, rng62, e]
    rw [if_pos (by omega)]
  · intro i
    simp only [Itv.at, List.getElem?_map]
    by_cases hj : i < kids.length
    · rw [if_pos hj, List.getElem?_range hj]; rfl
    · rw [if_neg hj, List.getElem?_eq_none (by simpa using hj)]; rfl
  · intro v hv
    obtain ⟨j, hj, rfl⟩ := List.mem_map.mp hv
    have hj := List.mem_range.mp hj
    have e1 : kids.length - 1 - j < kids.length := by omega
    have e2 : ((kids.length : Int) - 1 + (j : Nat) * (-1)) = ((kids.length - 1 - j : Nat) : Int) := by omega
    have e3 := atI_lt e1
    rw [e2]
    refine ⟨_, rfl, ?_⟩
    simp [dSs, dS, dE, dEs, dB_one, dB_and, dB_or, ite_and, ite_or, dC, dI, dO, Res.bind, Res.toS, Res.ofO, Rs.toR, Rs.ofO, opC, eqL, asB, eqC_int, flat, sz0, sz1, sz2, sz3, sz4, sz5, sz6, sz7, wipeE, opB, hp', opIx, e3, List.getElem?_eq_getElem e1]
theorem tr_body {n k : Nat} {M : Mem} {F Wr : Nat} (hne : F ≠ Wr) (hF : F < M.length) (hW : Wr < M.length) {fs ws path : List Va} {w : W} {r : List Va} {x0 x2 x3 x5 x6 x7 x8 x9 : Option Va} (hp : path.length ≤ 100) (hv : vok (.tup (.str w :: r)) = true) (hs : nodeV w (.str w :: r) = true ∨ nodeW w = false)
    (hfl : fs.length < sizeLine) (hwl : ws.length + (kidsV w (.str w :: r)).length ≤ sizeLine) :
    dSs (orcN pg.fs (n + 1)) b7_trees_of [x0, some (.ref F), x2, x3, some (.ref Wr), x5, x6, x7, x8, x9] (tl M F Wr fs (ws ++ [.tup [.tup path, .tup (.str w :: r)]])) =
    .nx [x0, some (.ref F), x2, x3, some (.ref Wr), some (.tup path), some (.tup (.str w :: r)), some (.lst (kidsV w (.str w :: r))), x8, x9] (tl M F Wr (fs ++ [.tup [.tup path, .tup (.str w :: r)]]) (ws ++ (kidEnts k path 0 (kidsV w (.str w :: r))).reverse.map entV)) := by
  have ek := kids_ok n w r (tl M F Wr (fs ++ [.tup [.tup path, .tup (.str w :: r)]]) ws) hv hs
  have hkv := kids_vok hv
  simp only [vok, Bool.and_eq_true, decide_eq_true_eq] at hkv
  have hc := tr_comp (o := orcN pg.fs (n + 1)) (M := tl M F Wr (fs ++ [.tup [.tup path, .tup (.str w :: r)]]) ws) (k := k) (path := path) (kids := kidsV w (.str w :: r)) (x0 := x0) (x1 := some (.ref F)) (x2 := x2) (x3 := x3) (x4 := some (.ref Wr)) (x6 := some (.tup (.str w :: r))) (x8 := x8) (x9 := x9) hkv.1 hp
  have hlen : ((kidEnts k path 0 (kidsV w (.str w :: r))).reverse.map entV).length = (kidsV w (.str w :: r)).length := by simp [kidEnts_len]
  have hwl' : ws.length + ((kidEnts k path 0 (kidsV w (.str w :: r))).reverse.map entV).length ≤ sizeLine := by rw [hlen]; exact hwl
  generalize hes : (kidEnts k path 0 (kidsV w (.str w :: r))).reverse.map entV = es at *
  simp [b7_trees_of, s3_trees_of, s4_trees_of, s5_trees_of, s6_trees_of, dSs, dS, dE, dEs, dB_one, dB_and, dB_or, ite_and, ite_or, dC, dI, dO, Res.bind, Res.toS, Res.ofO, Rs.toR, Rs.ofO, opC, eqL, asB, eqC_int, flat, sz0, sz1, sz2, sz3, sz4, sz5, sz6, sz7, popOf, tl_W hW, tl_F hne hF, tl_set_W, tl_set_F hne, tgSet, tgsSet, itemsO, appTo, extTo, hfl, ek, hc, hwl']
theorem vpure_of : ∀ (v : Va), vok v = true → vpure v = true := by
  intro v h
  exact vp v h
where
  vp : ∀ (v : Va), vok v = true → vpure v = true
    | .non, _ => rfl
    | .bl _, _ => rfl
    | .int _, _ => rfl
    | .str s, h => by
      simp only [vok, Bool.and_eq_true] at h
      rw [vpure, sok_eq]
      exact h.2
    | .tup xs, h => by
      simp only [vok, Bool.and_eq_true] at h
      rw [vpure]
      exact vps xs h.2
    | .lst xs, h => by
      simp only [vok, Bool.and_eq_true] at h
      rw [vpure]
      exact vps xs h.2
    | .ref n, h => by cases h
  vps : ∀ (xs : List Va), voks xs = true → vpures xs = true
    | [], _ => rfl
    | x :: xs, h => by
      simp only [voks, Bool.and_eq_true] at h
      rw [vpures, vp x h.1, vps xs h.2]
      rfl
theorem vread_of (f : Nat → Option Va) : ∀ (v : Va), vpure v = true → vread f v = some v := by
  intro v h
  exact vp v h
where
  vp : ∀ (v : Va), vpure v = true → vread f v = some v
    | .non, _ => rfl
    | .bl _, _ => rfl
    | .int _, _ => rfl
    | .str s, h => rfl
    | .tup xs, h => by
      rw [vpure] at h
      rw [vread, vps xs h]
      rfl
    | .lst xs, h => by
      rw [vpure] at h
      rw [vread, vps xs h]
      rfl
    | .ref n, h => by cases h
  vps : ∀ (xs : List Va), vpures xs = true → vreads f xs = some xs
    | [], _ => rfl
    | x :: xs, h => by
      simp only [vpures, Bool.and_eq_true] at h
      rw [vreads, vp x h.1, vps xs h.2]
theorem eq_nil {M : Mem} {Wr : Nat} {ws : List Va} (h : M[Wr]? = some (.lst ws)) (hp : vpures ws = true) (hd : vdeps ws ≤ 63) : eqC M (.ref Wr) (.lst []) = some (ws.isEmpty) := by
  have h1 := vread_of.vps (rd1 (rd1 rd0 M) M) ws hp
  have h2 : okD (.lst ws) = true := by
    have hd1 : vdep (.lst ws) ≤ 64 := by rw [vdep]; omega
    simp only [okD, vpure, Bool.and_eq_true, decide_eq_true_eq]
    exact ⟨hp, hd1⟩
  have h3 : okD (.lst []) = true := by decide
  simp only [eqC, vread, rdM, rd1, h, h1, vreads, Option.map_some, h2, h3, Bool.and_self, if_true]
  cases ws <;> simp [veq, veqs]
/-- an entry: its path are numbers -/
def EOk (e : Ent) : Prop := TOk e ∧ ∀ v ∈ e.2.1, ∃ i, v = .int i
theorem ints_pure : ∀ (xs : List Va), (∀ v ∈ xs, ∃ i, v = .int i) → vpures xs = true ∧ vdeps xs = 0
  | [], _ => ⟨rfl, rfl⟩
  | x :: xs, h => by
    obtain ⟨i, rfl⟩ := h x List.mem_cons_self
    obtain ⟨h1, h2⟩ := ints_pure xs fun v hv => h v (List.mem_cons_of_mem _ hv)
    simp [vpures, vpure, vdeps, vdep, h1, h2]
theorem ents_pure : ∀ (es : List Ent), (∀ e ∈ es, EOk e) → vpures (es.map entV) = true ∧ vdeps (es.map entV) ≤ 63
  | [], _ => ⟨rfl, by simp [vdeps]⟩
  | e :: es, h => by
    obtain ⟨h1, h2⟩ := ents_pure es fun q hq => h q (List.mem_cons_of_mem _ hq)
    obtain ⟨⟨_, a2, a3, _⟩, b⟩ := h e List.mem_cons_self
    obtain ⟨b1, b2⟩ := ints_pure _ b
    rw [List.map_cons]
    refine ⟨?_, ?_⟩
    · simp only [vpures, entV, vpure, h1, b1, vpure_of _ a2, Bool.and_self]
    · simp only [vdeps, entV, vdep, b2]
      omega
theorem kidEnts_mem' {k : Nat} {path : List Va} : ∀ {kids : List Va} {i : Nat} {e : Ent}, e ∈ kidEnts k path i kids → ∃ (j : Nat) (v : Va), v ∈ kids ∧ e = (k, path ++ [.int (j : Nat)], v)
  | a :: r, i, e, h => by
    rw [kidEnts] at h
    rcases List.mem_cons.mp h with q | h
    · exact ⟨i, a, List.mem_cons_self, q⟩
    · obtain ⟨j, v, h1, h2⟩ := kidEnts_mem' h
      exact ⟨j, v, List.mem_cons_of_mem _ h1, h2⟩
theorem ents_len : ∀ (es : List Ent), (∀ e ∈ es, EOk e) → es.length ≤ (es.flatMap outE).length
  | [], _ => by simp
  | e :: es, h => by
    have := (h e List.mem_cons_self).1.pos
    have := ents_len es fun q hq => h q (List.mem_cons_of_mem _ hq)
    rw [List.flatMap_cons, List.length_append, List.length_cons]
    omega
/-- an entry taken: its tree, and the entries of its kids -/
theorem EOk.take {e : Ent} (h : EOk e) : ∃ (k : Nat) (path : List Va) (w : W) (r : List Va), e = (k + 1, path, .tup (.str w :: r)) ∧ vok (.tup (.str w :: r)) = true ∧ (nodeV w (.str w :: r) = true ∨ nodeW w = false) ∧ path.length ≤ 100 ∧
    outE e = entV e :: (kidEnts k path 0 (kidsV w (.str w :: r))).flatMap outE ∧ ∀ q ∈ kidEnts k path 0 (kidsV w (.str w :: r)), EOk q := by
  obtain ⟨⟨⟨z, hz⟩, a2, a3, a4⟩, b⟩ := h
  obtain ⟨kk, path, tree⟩ := e
  cases kk with
  | zero => cases hz
  | succ k =>
    simp only at hz a2 a3 a4 b
    unfold cntP at hz
    split at hz
    · rename_i w r
      split at hz
      · rename_i hn
        obtain ⟨t, h1, h2⟩ := Option.map_eq_some_iff.mp hz
        refine ⟨k, path, w, r, rfl, a2, ?_, by omega, ?_, ?_⟩
        · rw [Bool.or_eq_true] at hn
          exact hn.imp id fun q => by simpa using q
        · show treesP (k + 1) path (.tup (.str w :: r)) = _
          rw [treesP, ← kidsF_eq]
          rfl
        · intro q hq
          obtain ⟨j, v, hv, rfl⟩ := kidEnts_mem' hq
          have hkv := kids_vok a2
          simp only [vok, Bool.and_eq_true, decide_eq_true_eq] at hkv
          refine ⟨⟨sumO_ev h1 v hv, voks_mem hkv.2 hv, Nat.le_trans (kids_dep hv) a3, ?_⟩, ?_⟩
          · simp only [List.length_append, List.length_singleton]
            omega
          · intro u hu
            rcases List.mem_append.mp hu with hu | hu
            · exact b u hu
            · exact ⟨_, List.mem_singleton.mp hu⟩
      · cases hz
    · cases hz
theorem whileL_go {cond : Dn.Env → Mem → Res Bool} {body : Dn.Env → Mem → Rs} {k : Nat} {env env' : Dn.Env} {M M' : Mem} (hc : cond env M = .ok true M) (hb : body env M = .nx env' M') : whileL cond body (k + 1) env M = whileL cond body k env' M' := by
  conv => lhs; unfold whileL
  simp only [hc, Res.toS, if_true, hb]
theorem whileL_stop {cond : Dn.Env → Mem → Res Bool} {body : Dn.Env → Mem → Rs} {k : Nat} {env : Dn.Env} {M : Mem} (hc : cond env M = .ok false M) : whileL cond body (k + 1) env M = .nx env M := by
  unfold whileL
  simp only [hc, Res.toS, Bool.false_eq_true, if_false]
theorem tr_cond {o : Orc} {M : Mem} {Wr : Nat} {ws : List Va} {x0 x1 x2 x3 x5 x6 x7 x8 x9 : Option Va} (h : M[Wr]? = some (.lst ws)) (hp : vpures ws = true) (hd : vdeps ws ≤ 63) {p1 p2 p3 : Pos} :
    (dE o (.cmp .NotEq (.var 4 "waiting" p1) (.lst false .nil p2) p3) [x0, x1, x2, x3, some (.ref Wr), x5, x6, x7, x8, x9] M).bind asB = .ok (!ws.isEmpty) M := by
  simp [dSs, dS, dE, dEs, dB_one, dB_and, dB_or, ite_and, ite_or, dC, dI, dO, Res.bind, Res.toS, Res.ofO, Rs.toR, Rs.ofO, opC, eqL, asB, eqC_int, flat, sz0, sz1, sz2, sz3, sz4, sz5, sz6, sz7, newL, eq_nil h hp hd]
theorem tr_loop {n : Nat} {M : Mem} {F Wr : Nat} (hne : F ≠ Wr) (hF : F < M.length) (hW : Wr < M.length) {x0 x2 x3 x8 x9 : Option Va} {p1 p2 p3 : Pos} : ∀ (m : Nat) (rs : List Ent) (fs : List Va) (x5 x6 x7 : Option Va) (fuel : Nat), (∀ e ∈ rs, EOk e) → (rs.flatMap outE).length = m → m < fuel → fs.length + m ≤ 1000000 →
    ∃ y5 y6 y7, whileL (fun env M => (dE (orcN pg.fs (n + 1)) (.cmp .NotEq (.var 4 "waiting" p1) (.lst false .nil p2) p3) env M).bind asB) (fun env M => dSs (orcN pg.fs (n + 1)) b7_trees_of env M) fuel [x0, some (.ref F), x2, x3, some (.ref Wr), x5, x6, x7, x8, x9] (tl M F Wr fs (rs.reverse.map entV)) =
      .nx [x0, some (.ref F), x2, x3, some (.ref Wr), y5, y6, y7, x8, x9] (tl M F Wr (fs ++ rs.flatMap outE) [])
  | m, rs, fs, x5, x6, x7, 0, he, hm, hf, hl => by omega
  | m, [], fs, x5, x6, x7, fuel + 1, he, hm, hf, hl => by
    refine ⟨x5, x6, x7, ?_⟩
    rw [whileL_stop (by rw [tr_cond (tl_W hW _ _) rfl (by simp [vdeps])]; rfl)]
    simp
  | m, e :: rs, fs, x5, x6, x7, fuel + 1, he, hm, hf, hl => by
    obtain ⟨k, path, w, r, rfl, hv, hs, hp, ho, hk⟩ := (he e List.mem_cons_self).take
    have hrs : ∀ q ∈ rs, EOk q := fun q hq => he q (List.mem_cons_of_mem _ hq)
    have hnew : ∀ q ∈ kidEnts k path 0 (kidsV w (.str w :: r)) ++ rs, EOk q := fun q hq => (List.mem_append.mp hq).elim (hk q) (hrs q)
    have hlen := ents_len _ hnew
    rw [List.flatMap_cons, ho, List.cons_append, List.length_cons, List.length_append] at hm
    rw [List.flatMap_append, List.length_append, List.length_append, kidEnts_len] at hlen
    have hpu := ents_pure (rs.reverse ++ [(k + 1, path, .tup (.str w :: r))]) fun q hq => by
      rcases List.mem_append.mp hq with hq | hq
      · exact hrs q (List.mem_reverse.mp hq)
      · rw [List.mem_singleton.mp hq]; exact he _ List.mem_cons_self
    rw [List.reverse_cons]
    rw [whileL_go (by rw [tr_cond (tl_W hW _ _) hpu.1 hpu.2]; simp) (by
      rw [List.map_append]
      exact tr_body (n := n) (k := k) hne hF hW hp hv hs (by rw [sizeLine_eq']; omega) (by rw [List.length_map, List.length_reverse, sizeLine_eq']; omega))]
    have e1 : rs.reverse.map entV ++ (kidEnts k path 0 (kidsV w (.str w :: r))).reverse.map entV = ((kidEnts k path 0 (kidsV w (.str w :: r)) ++ rs).reverse).map entV := by
      rw [List.reverse_append, List.map_append]
    rw [e1]
    obtain ⟨y5, y6, y7, h⟩ := tr_loop (n := n) hne hF hW (m - 1) (kidEnts k path 0 (kidsV w (.str w :: r)) ++ rs) (fs ++ [.tup [.tup path, .tup (.str w :: r)]]) (some (.tup path)) (some (.tup (.str w :: r))) (some (.lst (kidsV w (.str w :: r)))) fuel hnew
      (by rw [List.flatMap_append, List.length_append]; omega) (by omega) (by rw [List.length_append, List.length_singleton]; omega)
    refine ⟨y5, y6, y7, ?_⟩
    rw [h]
    congr 2
    rw [List.flatMap_cons, ho, List.flatMap_append, List.append_assoc]
    rfl
end K19
namespace K19
open PySem Dn Pr
def itOf : S → It'
  | .for_ _ it _ _ => it
  | _ => .seq (.non 0 ⟨0, 0, 0, 0⟩)
theorem for_eq {o : Orc} {tg : Tg} {it : It'} {b : Ss} {p : Pos} {env : Dn.Env} {M M1 : Mem} {t : Itv} (h : dI o it env M = .ok t M1) : dS o (.for_ tg it b p) env M = forL t (tgSet tg) (fun env M => dSs o b env M) fuelW 0 env M1 := by
  simp only [dS, h, Res.toS]
theorem tl_app (M : Mem) (a a' : List Va) (G : Mem) (b b' : List Va) : tl (M ++ .lst a :: G ++ [.lst b]) M.length (M.length + 1 + G.length) a' b' = M ++ .lst a' :: (G ++ [.lst b']) := by
  unfold tl
  have e1 : (M ++ Ob.lst a :: G ++ [Ob.lst b]).set M.length (Ob.lst a') = (M ++ Ob.lst a' :: G) ++ [Ob.lst b] := by
    simp [List.append_assoc]
  rw [e1]
  have e2 : M.length + 1 + G.length = (M ++ Ob.lst a' :: G).length := by simp; omega
  rw [e2, List.set_append_right _ _ (Nat.le_refl _), Nat.sub_self]
  simp [List.append_assoc]
theorem tr_iter {n k : Nat} {M G : Mem} {fs : List Va} {i : Int} {body : Va} {x0 x4 x5 x6 x7 x8 x9 : Option Va} (h : EOk (k, [.int i], body)) (hl : fs.length + (treesP k [.int i] body).length ≤ 1000000) :
    ∃ y4 y5 y6 y7, dSs (orcN pg.fs (n + 1)) b10_trees_of [x0, some (.ref M.length), some (.int i), some body, x4, x5, x6, x7, x8, x9] (M ++ .lst fs :: G) =
      .nx [x0, some (.ref M.length), some (.int i), some body, y4, y5, y6, y7, x8, x9] (M ++ .lst (fs ++ treesP k [.int i] body) :: (G ++ [.lst []])) := by
  have e1 : M ++ .lst fs :: G ++ [.lst [entV (k, [.int i], body)]] = tl (M ++ .lst fs :: G ++ [.lst [entV (k, [.int i], body)]]) M.length (M.length + 1 + G.length) fs ([(k, [.int i], body)].reverse.map entV) := by
    rw [tl_app]
    simp [List.append_assoc]
  obtain ⟨y5, y6, y7, hw⟩ := tr_loop (n := n) (M := M ++ .lst fs :: G ++ [.lst [entV (k, [.int i], body)]]) (F := M.length) (Wr := M.length + 1 + G.length) (by omega) (by simp <;> omega) (by simp <;> omega) (x0 := x0) (x2 := some (.int i)) (x3 := some body) (x8 := x8) (x9 := x9) (p1 := ⟨136, 14, 136, 21⟩) (p2 := ⟨136, 25, 136, 27⟩) (p3 := ⟨136, 14, 136, 27⟩) (treesP k [.int i] body).length [(k, [.int i], body)] fs x5 x6 x7 fuelW
    (fun e he => by rw [List.mem_singleton.mp he]; exact h) (by simp [outE]) (by unfold fuelW; omega) hl
  rw [← e1, tl_app] at hw
  refine ⟨some (.ref (M.length + 1 + G.length)), y5, y6, y7, ?_⟩
  have hw' : dS (orcN pg.fs (n + 1)) l8_trees_of [x0, some (.ref M.length), some (.int i), some body, some (.ref (M.length + 1 + G.length)), x5, x6, x7, x8, x9] (M ++ .lst fs :: G ++ [.lst [entV (k, [.int i], body)]]) = .nx [x0, some (.ref M.length), some (.int i), some body, some (.ref (M.length + 1 + G.length)), y5, y6, y7, x8, x9] (M ++ .lst (fs ++ treesP k [.int i] body) :: (G ++ [.lst []])) := by
    rw [show fs ++ treesP k [.int i] body = fs ++ [(k, [.int i], body)].flatMap outE by simp [outE], ← hw]
    unfold l8_trees_of
    rw [dS]
  have e3 : (M ++ Ob.lst fs :: G).length = M.length + 1 + G.length := by simp; omega
  simp only [entV, List.append_assoc, List.cons_append] at hw'
  simp [b10_trees_of, s9_trees_of, dSs, dS, dE, dEs, dB_one, dB_and, dB_or, ite_and, ite_or, dC, dI, dO, Res.bind, Res.toS, Res.ofO, Rs.toR, Rs.ofO, opC, eqL, asB, eqC_int, flat, sz0, sz1, sz2, sz3, sz4, sz5, sz6, sz7, newL, e3, hw']
def iterVs (ps : List (Int × Va)) : List Va := ps.map fun p => .tup [.int p.1, p.2]
def allT (k : Nat) (ps : List (Int × Va)) : List Va := ps.flatMap fun p => treesP k [.int p.1] p.2
theorem tr_for {n k : Nat} {M : Mem} {x0 x8 x9 : Option Va} {tg : Tg} (htg : ∀ a b x0 x1 x2 x3 x4 x5 x6 x7 x8 x9, tgSet tg (.tup [a, b]) [x0, x1, x2, x3, x4, x5, x6, x7, x8, x9] = some [x0, x1, some a, some b, x4, x5, x6, x7, x8, x9]) (all : List (Int × Va)) : ∀ (ps : List (Int × Va)) (i fuel : Nat) (fs : List Va) (G : Mem) (x2 x3 x4 x5 x6 x7 : Option Va), all.drop i = ps → i ≤ all.length → ps.length < fuel → (∀ p ∈ ps, EOk (k, [.int p.1], p.2)) → fs.length + (allT k ps).length ≤ 1000000 →
    ∃ G' y2 y3 y4 y5 y6 y7, forL (.vals (iterVs all)) (tgSet tg) (fun env M => dSs (orcN pg.fs (n + 1)) b10_trees_of env M) fuel i [x0, some (.ref M.length), x2, x3, x4, x5, x6, x7, x8, x9] (M ++ .lst fs :: G) = .nx [x0, some (.ref M.length), y2, y3, y4, y5, y6, y7, x8, x9] (M ++ .lst (fs ++ allT k ps) :: G')
  | [], i, fuel, fs, G, x2, x3, x4, x5, x6, x7, hd, hi, hf, he, hl => by
    cases fuel with
    | zero => omega
    | succ fuel =>
      have e : (iterVs all)[i]? = none := by
        have := congrArg List.length hd
        simp at this
        exact List.getElem?_eq_none (by simp [iterVs]; omega)
      refine ⟨G, x2, x3, x4, x5, x6, x7, ?_⟩
      rw [forL_stop (by simp only [Itv.at, e])]
      simp [allT]
  | p :: ps, i, fuel, fs, G, x2, x3, x4, x5, x6, x7, hd, hi, hf, he, hl => by
    cases fuel with
    | zero => omega
    | succ fuel =>
      have hlt : i < all.length := by
        have := congrArg List.length hd
        simp at this
        omega
      have ed : all.drop i = all[i] :: all.drop (i + 1) := List.drop_eq_getElem_cons hlt
      rw [hd] at ed
      injection ed with e1 e2
      have eg : (iterVs all)[i]? = some (.tup [.int p.1, p.2]) := by
        rw [iterVs, List.getElem?_map, List.getElem?_eq_getElem hlt, ← e1]
        rfl
      have hal : (allT k (p :: ps)).length = (treesP k [.int p.1] p.2).length + (allT k ps).length := by simp [allT]
      obtain ⟨y4, y5, y6, y7, hb⟩ := tr_iter (n := n) (M := M) (G := G) (fs := fs) (x0 := x0) (x4 := x4) (x5 := x5) (x6 := x6) (x7 := x7) (x8 := x8) (x9 := x9) (he p List.mem_cons_self) (by omega)
      rw [forL_next (by simp only [Itv.at, eg]) (htg _ _ _ _ _ _ _ _ _ _ _ _) hb]
      have hlen : fs.length + (treesP k [.int p.1] p.2).length + (allT k ps).length ≤ 1000000 := by omega
      obtain ⟨G', z2, z3, z4, z5, z6, z7, h⟩ := tr_for (n := n) htg all ps (i + 1) fuel (fs ++ treesP k [.int p.1] p.2) (G ++ [.lst []]) (some (.int p.1)) (some p.2) y4 y5 y6 y7 e2.symm hlt (by simp at hf; omega) (fun q hq => he q (List.mem_cons_of_mem _ hq)) (by rw [List.length_append]; exact hlen)
      refine ⟨G', z2, z3, z4, z5, z6, z7, ?_⟩
      rw [h]
      simp [allT, List.append_assoc]
/-- the functions by numbers, and main -/
def bodyV : Va → Va
  | .tup [_, b] => b
  | _ => .non
def numbered : Nat → List Va → List (Int × Va)
  | _, [] => []
  | i, f :: r => ((i : Nat), bodyV f) :: numbered (i + 1) r
def partsOf (fs : List Va) (main : Va) : List (Int × Va) := numbered 0 fs ++ [(-1, main)]
def pairV (v : Va) : Bool := match v with
  | .tup [_, _] => true
  | _ => false
theorem numbered_get : ∀ (fs : List Va) (i j : Nat), (numbered i fs)[j]? = fs[j]?.map fun v => (((i + j : Nat) : Int), bodyV v)
  | [], i, j => by simp [numbered]
  | a :: r, i, 0 => by simp [numbered]
  | a :: r, i, j + 1 => by
    rw [numbered, List.getElem?_cons_succ, numbered_get r (i + 1) j, List.getElem?_cons_succ, show i + 1 + j = i + (j + 1) by omega]
theorem numbered_len : ∀ (fs : List Va) (i : Nat), (numbered i fs).length = fs.length
  | [], i => rfl
  | a :: r, i => by rw [numbered, List.length_cons, List.length_cons, numbered_len r (i + 1)]
theorem tr_e1 {o : Orc} {M : Mem} {fs : List Va} {main : Va} {x1 x2 x3 x4 x5 x6 x7 x8 x9 : Option Va} (hl : fs.length ≤ sizeLine) (hp : ∀ f ∈ fs, pairV f = true) :
    dE o e1_trees_of [some (.tup [.tup fs, main]), x1, x2, x3, x4, x5, x6, x7, x8, x9] M = .ok (.lst (iterVs (numbered 0 fs))) M := by
  unfold e1_trees_of
  rw [comp_map (.enu fs) (fs.mapIdx fun i v => Va.tup [.int (i : Nat), v])
    (fun v => match v with
      | .tup [.int p, f] => .tup [.int p, bodyV f]
      | _ => .non) ?_ ?_ ?_ (by simpa using hl)]
  · unfold finC
    simp only [Bool.false_eq_true, if_false]
    congr 2
    apply List.ext_getElem?
    intro j
    simp only [iterVs, List.getElem?_map, List.getElem?_mapIdx, numbered_get]
    cases fs[j]? <;> simp
  · simp [dSs, dS, dE, dEs, dB_one, dB_and, dB_or, ite_and, ite_or, dC, dI, dO, Res.bind, Res.toS, Res.ofO, Rs.toR, Rs.ofO, opC, eqL, asB, eqC_int, flat, sz0, sz1, sz2, sz3, sz4, sz5, sz6, sz7, opIx, atI0, enuOf]
  · intro i
    simp only [Itv.at, List.getElem?_mapIdx]
  · intro v hv
    obtain ⟨j, hj⟩ := List.mem_iff_getElem?.mp hv
    rw [List.getElem?_mapIdx] at hj
    obtain ⟨f, hf, rfl⟩ := Option.map_eq_some_iff.mp hj
    have hpf := hp f (List.mem_of_getElem? hf)
    unfold pairV at hpf
    split at hpf
    · refine ⟨_, rfl, ?_⟩
      simp [dSs, dS, dE, dEs, dB_one, dB_and, dB_or, ite_and, ite_or, dC, dI, dO, Res.bind, Res.toS, Res.ofO, Rs.toR, Rs.ofO, opC, eqL, asB, eqC_int, flat, sz0, sz1, sz2, sz3, sz4, sz5, sz6, sz7, wipeE, opIx, atI1, bodyV]
    · cases hpf
theorem trees_ok {n k : Nat} {M : Mem} {fs : List Va} {main : Va} (hl : fs.length ≤ 1000) (hp : ∀ f ∈ fs, pairV f = true) (he : ∀ p ∈ partsOf fs main, EOk (k, [.int p.1], p.2)) (hn : (allT k (partsOf fs main)).length ≤ 1000000) :
    ∃ X, (orcN pg.fs (n + 2)).cl 16 [.tup [.tup fs, main]] M = .ok (.ref M.length) (M ++ .lst (allT k (partsOf fs main)) :: X) := by
  rw [show n + 2 = (n + 1) + 1 by omega, c_trees_of]
  have hl' : fs.length + 1 ≤ sizeLine := by rw [sizeLine_eq']; omega
  have e1 := tr_e1 (o := orcN pg.fs (n + 1)) (M := M ++ [.lst []]) (main := main) (x1 := some (.ref M.length)) (x2 := none) (x3 := none) (x4 := none) (x5 := none) (x6 := none) (x7 := none) (x8 := none) (x9 := none) (by omega) hp
  have hlen : (iterVs (numbered 0 fs)).length = fs.length := by simp [iterVs, numbered_len]
  have e2 : iterVs (partsOf fs main) = iterVs (numbered 0 fs) ++ [.tup [.int (-1), main]] := by simp [iterVs, partsOf]
  obtain ⟨G', y2, y3, y4, y5, y6, y7, hfor⟩ := tr_for (n := n) (M := M) (x0 := some (.tup [.tup fs, main])) (x8 := none) (x9 := none) (tg := tgOf l11_trees_of) (fun a b x0 x1 x2 x3 x4 x5 x6 x7 x8 x9 => by simp [tgOf, l11_trees_of, tgSet, tgsSet]) (partsOf fs main) (partsOf fs main) 0 fuelW [] [] none none none none none none rfl (Nat.zero_le _)
    (by unfold fuelW; simp [partsOf, numbered_len]; omega) he (by simpa using hn)
  refine ⟨G', ?_⟩
  have hl11 : dS (orcN pg.fs (n + 1)) l11_trees_of [some (.tup [.tup fs, main]), some (.ref M.length), none, none, none, none, none, none, none, none] (M ++ [.lst []]) = .nx [some (.tup [.tup fs, main]), some (.ref M.length), y2, y3, y4, y5, y6, y7, none, none] (M ++ .lst ([] ++ allT k (partsOf fs main)) :: G') := by
    have hI : dI (orcN pg.fs (n + 1)) (itOf l11_trees_of) [some (.tup [.tup fs, main]), some (.ref M.length), none, none, none, none, none, none, none, none] (M ++ [.lst []]) = .ok (.vals (iterVs (partsOf fs main))) (M ++ [.lst []]) := by
      rw [e2]
      generalize hiv : iterVs (numbered 0 fs) = iv at *
      simp [itOf, l11_trees_of, dSs, dS, dE, dEs, dB_one, dB_and, dB_or, ite_and, ite_or, dC, dI, dO, Res.bind, Res.toS, Res.ofO, Rs.toR, Rs.ofO, opC, eqL, asB, eqC_int, flat, sz0, sz1, sz2, sz3, sz4, sz5, sz6, sz7, e1, opIx, atI1, newL, opB, itemsL, hlen, hl', seqOf]
    rw [← hfor]
    exact for_eq hI
  rw [List.nil_append] at hl11
  simp only [b_trees_of, dSs, s12_trees_of, dS, dE, dEs, Res.bind, newL, Res.toS, List.set_cons_succ, List.set_cons_zero, List.length_nil, sz0, if_true]
  simp [hl11, s13_trees_of, dSs, dS, dE, dEs, dB_one, dB_and, dB_or, ite_and, ite_or, dC, dI, dO, Res.bind, Res.toS, Res.ofO, Rs.toR, Rs.ofO, opC, eqL, asB, eqC_int, flat, sz0, sz1, sz2, sz3, sz4, sz5, sz6, sz7]
end K19
namespace K19
open PySem Dn Pr
theorem app_at (M : Mem) (o : Ob) : (M ++ [o])[M.length]? = some o := by simp
theorem app_set (M : Mem) (o o' : Ob) : (M ++ [o]).set M.length o' = M ++ [o'] := by simp
theorem unf_body {n k : Nat} {M : Mem} {sz : Kn} {prog : Va} {nm : W} {body : Va} {z : Int} (hv : vok body = true) (hl : sz.length < sizeLine) (h : sizeP sz k body = some z) :
    dSs (orcN pg.fs (n + k + 1)) b2_unfolded_size [some prog, some (.ref M.length), some (.str nm), some body] (M ++ [.dic sz]) = .nx [some prog, some (.ref M.length), some (.str nm), some body] (M ++ [.dic (Dn.put sz (.inr nm) (.int z))]) := by
  have e := size_ok (app_at M (.dic sz)) k n body z hv h
  simp [b2_unfolded_size, s1_unfolded_size, dSs, dS, dE, dEs, dB_one, dB_and, dB_or, ite_and, ite_or, dC, dI, dO, Res.bind, Res.toS, Res.ofO, Rs.toR, Rs.ofO, opC, eqL, asB, eqC_int, flat, sz0, sz1, sz2, sz3, sz4, sz5, sz6, sz7, e, setAt, dput, hl]
theorem unf_loop {n k : Nat} {M : Mem} {prog : Va} {tg : Tg} (htg : ∀ a b x y s, tgSet tg (.tup [a, b]) [some prog, some s, x, y] = some [some prog, some s, some a, some b]) : ∀ (fs all : List Va) (i fuel : Nat) (sz sz' : Kn) (x y : Option Va), all.drop i = fs → i ≤ all.length → fs.length < fuel → voks fs = true → sizesP k sz fs = some sz' → sz.length + fs.length ≤ sizeLine →
    ∃ x' y', forL (.vals all) (tgSet tg) (fun env M => dSs (orcN pg.fs (n + k + 1)) b2_unfolded_size env M) fuel i [some prog, some (.ref M.length), x, y] (M ++ [.dic sz]) = .nx [some prog, some (.ref M.length), x', y'] (M ++ [.dic sz'])
  | [], all, i, fuel, sz, sz', x, y, hd, hi, hf, hv, hs, hz => by
    cases fuel with
    | zero => omega
    | succ fuel =>
      cases hs
      have e : all[i]? = none := by
        have := congrArg List.length hd
        simp at this
        exact List.getElem?_eq_none (by omega)
      exact ⟨x, y, forL_stop (by simp only [Itv.at, e])⟩
  | f :: fs, all, i, fuel, sz, sz', x, y, hd, hi, hf, hv, hs, hz => by
    cases fuel with
    | zero => omega
    | succ fuel =>
      have hlt : i < all.length := by
        have := congrArg List.length hd
        simp at this
        omega
      have ed : all.drop i = all[i] :: all.drop (i + 1) := List.drop_eq_getElem_cons hlt
      rw [hd] at ed
      injection ed with e1 e2
      have eg : all[i]? = some f := by rw [e1]; exact List.getElem?_eq_getElem hlt
      simp only [voks, Bool.and_eq_true] at hv
      unfold sizesP at hs
      split at hs
      · rename_i nm body
        split at hs
        · rename_i z hz'
          have hvb : vok body = true := by
            have := hv.1
            simp only [vok, voks, Bool.and_eq_true] at this
            exact this.2.2.1
          simp only [List.length_cons] at hz hf
          have hb := unf_body (n := n) (M := M) (prog := prog) (nm := nm) hvb (by omega) hz'
          rw [forL_next (by simp only [Itv.at, eg]) (htg _ _ _ _ _) hb]
          have pl := put_len sz (.inr nm) (.int z)
          exact unf_loop htg fs all (i + 1) fuel _ sz' _ _ e2.symm hlt (by omega) hv.2 hs (by omega)
        · cases hs
      · cases hs
theorem unf_ok {n k : Nat} {M : Mem} {fs : List Va} {main : Va} {sz : Kn} {z : Int} (hv : vok (.tup [.tup fs, main]) = true) (hs : sizesP k [] fs = some sz) (hz : sizeP sz k main = some z) :
    (orcN pg.fs (n + k + 2)).cl 15 [.tup [.tup fs, main]] M = .ok (.int z) (M ++ [.dic sz]) := by
  rw [show n + k + 2 = (n + k + 1) + 1 by omega, c_unfolded_size]
  simp only [vok, voks, Bool.and_eq_true, decide_eq_true_eq] at hv
  obtain ⟨_, ⟨hl, hv1⟩, hv2, _⟩ := hv
  obtain ⟨x, y, hloop⟩ := unf_loop (n := n) (M := M) (prog := .tup [.tup fs, main]) (tg := tgOf l3_unfolded_size) (fun a b x y s => by simp [tgOf, l3_unfolded_size, tgSet, tgsSet]) fs fs 0 fuelW [] sz none none rfl (Nat.zero_le _) (by unfold fuelW; rw [sizeLine_eq'] at hl; omega) hv1 hs (by simpa using hl)
  have hl3 : dS (orcN pg.fs (n + k + 1)) l3_unfolded_size [some (.tup [.tup fs, main]), some (.ref M.length), none, none] (M ++ [.dic []]) = .nx [some (.tup [.tup fs, main]), some (.ref M.length), x, y] (M ++ [.dic sz]) := by
    have hI : dI (orcN pg.fs (n + k + 1)) (itOf l3_unfolded_size) [some (.tup [.tup fs, main]), some (.ref M.length), none, none] (M ++ [.dic []]) = .ok (.vals fs) (M ++ [.dic []]) := by
      simp [itOf, l3_unfolded_size, dSs, dS, dE, dEs, dB_one, dB_and, dB_or, ite_and, ite_or, dC, dI, dO, Res.bind, Res.toS, Res.ofO, Rs.toR, Rs.ofO, opC, eqL, asB, eqC_int, flat, sz0, sz1, sz2, sz3, sz4, sz5, sz6, sz7, opIx, atI0, seqOf]
    rw [← hloop]
    exact for_eq hI
  have e := size_ok (app_at M (.dic sz)) k n main z hv2 hz
  simp only [b_unfolded_size, dSs, hl3, s4_unfolded_size, dS, dE, Res.toS, List.set_cons_succ, List.set_cons_zero]
  simp [hl3, s5_unfolded_size, dSs, dS, dE, dEs, dB_one, dB_and, dB_or, ite_and, ite_or, dC, dI, dO, Res.bind, Res.toS, Res.ofO, Rs.toR, Rs.ofO, opC, eqL, asB, eqC_int, flat, sz0, sz1, sz2, sz3, sz4, sz5, sz6, sz7, opIx, atI1, e]
end K19
namespace K19
open PySem Dn Pr
def RR (M : Mem) (kn : Kn) (cnt : Int) (nms : Kn) : Mem := M ++ [insO (M.length + 1) cnt, .dic nms, .dic kn]
theorem lay_RR (M : Mem) (kn kn' : Kn) (cnt cnt' : Int) (nms nms' : Kn) : lay (RR M kn cnt nms) M.length (M.length + 1) cnt' nms' = RR M kn cnt' nms' := by
  unfold lay RR
  rw [List.set_append_right _ _ (Nat.le_refl _), Nat.sub_self, List.set_append_right _ _ (by omega)]
  simp
theorem RR_lay (M : Mem) (kn : Kn) (cnt : Int) (nms : Kn) : LayOk (RR M kn cnt nms) M.length (M.length + 1) := ⟨by omega, by simp [RR], by simp [RR]⟩
theorem RR_kn (M : Mem) (kn : Kn) (cnt : Int) (nms : Kn) : (RR M kn cnt nms)[M.length + 2]? = some (.dic kn) := by
  unfold RR
  rw [List.getElem?_append_right (by omega)]
  simp
theorem RR_c (M : Mem) (kn : Kn) (cnt : Int) (nms : Kn) : (RR M kn cnt nms)[M.length]? = some (insO (M.length + 1) cnt) := by
  unfold RR
  rw [List.getElem?_append_right (by omega)]
  simp
theorem RR_n (M : Mem) (kn : Kn) (cnt : Int) (nms : Kn) : (RR M kn cnt nms)[M.length + 1]? = some (.dic nms) := by
  unfold RR
  rw [List.getElem?_append_right (by omega)]
  simp
theorem RR_set (M : Mem) (kn kn' : Kn) (cnt : Int) (nms : Kn) : (RR M kn cnt nms).set (M.length + 2) (.dic kn') = RR M kn' cnt nms := by
  unfold RR
  rw [List.set_append_right _ _ (by omega)]
  simp
def resR (M : Mem) (kn : Kn) : Out → Res Va
  | ((cnt, nms), none) => .ok .non (RR M kn cnt nms)
  | ((cnt, nms), some p) => .exc 4 (.tup p) (RR M kn cnt nms)
theorem look_R {n : Nat} {M : Mem} {kn : Kn} {tree : Va} {path : List Va} {loops : Int} {within : Bool} {st : St} (hv : vok tree = true) (hp : path.length = 1) (h1 : StOk st) (h2 : st.1 ≤ 3000) :
    (orcN pg.fs (n + 66)).cl 12 [.ref M.length, tree, .tup path, .ref (M.length + 2), .int loops, .bl within] (RR M kn st.1 st.2) = resR M kn (lookP kn 61 tree path loops within st) := by
  have h := look_ok (RR_lay M kn st.1 st.2) (RR_kn M kn st.1 st.2) (by omega) (by omega) 61 n tree path loops within st hv (by omega) (by omega) h1 h2
  rw [lay_RR _ _ kn] at h
  rw [h]
  cases lookP kn 61 tree path loops within st with
  | mk st' q =>
    obtain ⟨c, nm⟩ := st'
    cases q <;> simp only [resP, resR, lay_RR _ _ kn]
def StepOut (M : Mem) (kn : Kn) (env : Dn.Env) : Except (List Va) (Kn × St) → Rs → Prop
  | .ok (kn', st'), r => r = .nx env (RR M kn' st'.1 st'.2)
  | .error p, r => ∃ (env' : Dn.Env) (st' : St), r = .exc 4 (.tup p) env' (RR M kn st'.1 st'.2)
theorem rq_body {n : Nat} {M : Mem} {kn : Kn} {st : St} {prog f : Va} {i : Nat} (hv : vok f = true) (h1 : StOk st) (h2 : st.1 ≤ 3000) (hkl : kn.length < sizeLine) :
    StepOut M kn [some prog, some (.ref M.length), some (.ref (M.length + 2)), some (.int (i : Nat)), some f] (stepP i kn st f) (dSs (orcN pg.fs (n + 66)) b7_require_program [some prog, some (.ref M.length), some (.ref (M.length + 2)), some (.int (i : Nat)), some f] (RR M kn st.1 st.2)) := by
  cases f with
  | tup xs =>
    have hlen : ∀ r : List Va, xs = r → ¬ r.length = 2 → StepOut M kn [some prog, some (.ref M.length), some (.ref (M.length + 2)), some (.int (i : Nat)), some (.tup xs)] (stepP i kn st (.tup xs)) (dSs (orcN pg.fs (n + 66)) b7_require_program [some prog, some (.ref M.length), some (.ref (M.length + 2)), some (.int (i : Nat)), some (.tup xs)] (RR M kn st.1 st.2)) := by
      intro r e hr
      subst e
      have hs : stepP i kn st (.tup xs) = .error [.int (i : Nat)] := by
        unfold stepP
        split
        · rename_i e2; injection e2 with e2; subst e2; simp at hr
        · rfl
      have hi : ¬ (xs.length : Int) = 2 := by omega
      rw [hs]
      refine ⟨[some prog, some (.ref M.length), some (.ref (M.length + 2)), some (.int (i : Nat)), some (.tup xs)], st, ?_⟩
      simp [b7_require_program, s4_require_program, s3_require_program, dSs, dS, dE, dEs, dB_one, dB_and, dB_or, ite_and, ite_or, dC, dI, dO, Res.bind, Res.toS, Res.ofO, Rs.toR, Rs.ofO, opC, eqL, asB, eqC_int, flat, sz0, sz1, sz2, sz3, sz4, sz5, sz6, sz7, isi_tuple hv, tupV, opF, itemsS, hi]
    rcases xs with _ | ⟨a, _ | ⟨b, _ | ⟨c, t⟩⟩⟩
    · exact hlen _ rfl (by simp)
    · exact hlen _ rfl (by simp)
    · have hv' := hv
      simp only [vok, voks, Bool.and_eq_true, decide_eq_true_eq] at hv'
      have en := is_name_ok (n + 65) a (RR M kn st.1 st.2) hv'.2.1
      have hin : nameV a = true → opIn a (.ref (M.length + 2)) (RR M kn st.1 st.2) = some (match a with | .str nm => (look kn (.inr nm)).isSome | _ => false) := by
        intro h
        cases a with
        | str nm => simp [opIn, RR_kn, dget]
        | _ => cases h
      cases hn : nameV a with
      | false =>
        have hs : stepP i kn st (.tup [a, b]) = .error [.int (i : Nat)] := by
          cases a with
          | str nm =>
            have hn' : nameS nm = false := hn
            simp [stepP, hn']
          | _ => rfl
        rw [hs]
        refine ⟨[some prog, some (.ref M.length), some (.ref (M.length + 2)), some (.int (i : Nat)), some (.tup [a, b])], st, ?_⟩
        simp [b7_require_program, s4_require_program, s3_require_program, dSs, dS, dE, dEs, dB_one, dB_and, dB_or, ite_and, ite_or, dC, dI, dO, Res.bind, Res.toS, Res.ofO, Rs.toR, Rs.ofO, opC, eqL, asB, eqC_int, flat, sz0, sz1, sz2, sz3, sz4, sz5, sz6, sz7, isi_tuple hv, tupV, opF, itemsS, opIx, atI0, en, hn]
      | true =>
        have hin := hin hn
        cases a with
        | str nm =>
          have hn' : nameS nm = true := hn
          cases hk : (look kn (.inr nm)).isSome with
          | true =>
            have hs : stepP i kn st (.tup [.str nm, b]) = .error [.int (i : Nat)] := by
              simp [stepP, hk]
            rw [hs]
            refine ⟨[some prog, some (.ref M.length), some (.ref (M.length + 2)), some (.int (i : Nat)), some (.tup [.str nm, b])], st, ?_⟩
            simp [b7_require_program, s4_require_program, s3_require_program, dSs, dS, dE, dEs, dB_one, dB_and, dB_or, ite_and, ite_or, dC, dI, dO, Res.bind, Res.toS, Res.ofO, Rs.toR, Rs.ofO, opC, eqL, asB, eqC_int, flat, sz0, sz1, sz2, sz3, sz4, sz5, sz6, sz7, isi_tuple hv, tupV, opF, itemsS, opIx, atI0, en, hn, hin, hk]
          | false =>
            have el := look_R (n := n) (M := M) (kn := kn) (tree := b) (path := [.int (i : Nat)]) (loops := 0) (within := true) hv'.2.2.1 rfl h1 h2
            have hs : stepP i kn st (.tup [.str nm, b]) = match lookP kn 61 b [.int (i : Nat)] 0 true st with
                | (st', none) => .ok (put kn (.inr nm) (.bl true), st')
                | (_, some p) => .error p := by
              simp only [stepP, hn', hk, Bool.not_false, Bool.and_self, if_true]
              all_goals rfl
            rw [hs]
            cases hq : lookP kn 61 b [.int (i : Nat)] 0 true st with
            | mk st' q =>
              rw [hq] at el
              obtain ⟨c', nm'⟩ := st'
              cases q with
              | none =>
                simp only [resR] at el
                simp [StepOut, b7_require_program, s4_require_program, s5_require_program, s6_require_program, dSs, dS, dE, dEs, dB_one, dB_and, dB_or, ite_and, ite_or, dC, dI, dO, Res.bind, Res.toS, Res.ofO, Rs.toR, Rs.ofO, opC, eqL, asB, eqC_int, flat, sz0, sz1, sz2, sz3, sz4, sz5, sz6, sz7, isi_tuple hv, tupV, opF, itemsS, opIx, atI0, atI1, en, hn, hin, hk, RR_c, insO, el, setAt, RR_kn, dput, hkl, RR_set]
              | some p =>
                simp only [resR] at el
                refine ⟨[some prog, some (.ref M.length), some (.ref (M.length + 2)), some (.int (i : Nat)), some (.tup [.str nm, b])], (c', nm'), ?_⟩
                simp [b7_require_program, s4_require_program, s5_require_program, dSs, dS, dE, dEs, dB_one, dB_and, dB_or, ite_and, ite_or, dC, dI, dO, Res.bind, Res.toS, Res.ofO, Rs.toR, Rs.ofO, opC, eqL, asB, eqC_int, flat, sz0, sz1, sz2, sz3, sz4, sz5, sz6, sz7, isi_tuple hv, tupV, opF, itemsS, opIx, atI0, atI1, en, hn, hin, hk, RR_c, insO, el]
        | _ => cases hn
    · exact hlen _ rfl (by simp)
  | non =>
    refine ⟨[some prog, some (.ref M.length), some (.ref (M.length + 2)), some (.int (i : Nat)), some .non], st, ?_⟩
    simp [b7_require_program, s4_require_program, s3_require_program, dSs, dS, dE, dEs, dB_one, dB_and, dB_or, ite_and, ite_or, dC, dI, dO, Res.bind, Res.toS, Res.ofO, Rs.toR, Rs.ofO, opC, eqL, asB, eqC_int, flat, sz0, sz1, sz2, sz3, sz4, sz5, sz6, sz7, isi_tuple hv, tupV]
  | bl b =>
    refine ⟨[some prog, some (.ref M.length), some (.ref (M.length + 2)), some (.int (i : Nat)), some (.bl b)], st, ?_⟩
    simp [b7_require_program, s4_require_program, s3_require_program, dSs, dS, dE, dEs, dB_one, dB_and, dB_or, ite_and, ite_or, dC, dI, dO, Res.bind, Res.toS, Res.ofO, Rs.toR, Rs.ofO, opC, eqL, asB, eqC_int, flat, sz0, sz1, sz2, sz3, sz4, sz5, sz6, sz7, isi_tuple hv, tupV]
  | int j =>
    refine ⟨[some prog, some (.ref M.length), some (.ref (M.length + 2)), some (.int (i : Nat)), some (.int j)], st, ?_⟩
    simp [b7_require_program, s4_require_program, s3_require_program, dSs, dS, dE, dEs, dB_one, dB_and, dB_or, ite_and, ite_or, dC, dI, dO, Res.bind, Res.toS, Res.ofO, Rs.toR, Rs.ofO, opC, eqL, asB, eqC_int, flat, sz0, sz1, sz2, sz3, sz4, sz5, sz6, sz7, isi_tuple hv, tupV]
  | str s =>
    refine ⟨[some prog, some (.ref M.length), some (.ref (M.length + 2)), some (.int (i : Nat)), some (.str s)], st, ?_⟩
    simp [b7_require_program, s4_require_program, s3_require_program, dSs, dS, dE, dEs, dB_one, dB_and, dB_or, ite_and, ite_or, dC, dI, dO, Res.bind, Res.toS, Res.ofO, Rs.toR, Rs.ofO, opC, eqL, asB, eqC_int, flat, sz0, sz1, sz2, sz3, sz4, sz5, sz6, sz7, isi_tuple hv, tupV]
  | lst l =>
    refine ⟨[some prog, some (.ref M.length), some (.ref (M.length + 2)), some (.int (i : Nat)), some (.lst l)], st, ?_⟩
    simp [b7_require_program, s4_require_program, s3_require_program, dSs, dS, dE, dEs, dB_one, dB_and, dB_or, ite_and, ite_or, dC, dI, dO, Res.bind, Res.toS, Res.ofO, Rs.toR, Rs.ofO, opC, eqL, asB, eqC_int, flat, sz0, sz1, sz2, sz3, sz4, sz5, sz6, sz7, isi_tuple hv, tupV]
  | ref r =>
    refine ⟨[some prog, some (.ref M.length), some (.ref (M.length + 2)), some (.int (i : Nat)), some (.ref r)], st, ?_⟩
    simp [b7_require_program, s4_require_program, s3_require_program, dSs, dS, dE, dEs, dB_one, dB_and, dB_or, ite_and, ite_or, dC, dI, dO, Res.bind, Res.toS, Res.ofO, Rs.toR, Rs.ofO, opC, eqL, asB, eqC_int, flat, sz0, sz1, sz2, sz3, sz4, sz5, sz6, sz7, isi_tuple hv, tupV]
end K19
namespace K19
open PySem Dn Pr
theorem step_inv {i : Nat} {kn kn' : Kn} {st st' : St} {f : Va} (h1 : StOk st) (h2 : st.1 ≤ 3000) (h : stepP i kn st f = .ok (kn', st')) : StOk st' ∧ st'.1 ≤ 3000 ∧ kn'.length ≤ kn.length + 1 := by
  unfold stepP at h
  split at h
  · rename_i nm body
    split at h
    · split at h
      · rename_i st2 hl
        cases h
        obtain ⟨a, b⟩ := lookP_inv kn 61 body [.int (i : Nat)] 0 true st h1 h2
        rw [hl] at a b
        exact ⟨a, b rfl, put_len _ _ _⟩
      · cases h
    · cases h
  · cases h
def LoopR (M : Mem) (prog : Va) : Except (List Va) (Kn × St) → Rs → Prop
  | .ok (kn', st'), r => StOk st' ∧ st'.1 ≤ 3000 ∧ ∃ x y, r = .nx [some prog, some (.ref M.length), some (.ref (M.length + 2)), x, y] (RR M kn' st'.1 st'.2)
  | .error p, r => ∃ (env' : Dn.Env) (kn' : Kn) (st' : St), r = .exc 4 (.tup p) env' (RR M kn' st'.1 st'.2)
theorem rq_loop {n : Nat} {M : Mem} {prog : Va} {tg : Tg} (htg : ∀ a b x0 x1 x2 x3 x4, tgSet tg (.tup [a, b]) [x0, x1, x2, x3, x4] = some [x0, x1, x2, some a, some b]) (all : List Va) : ∀ (fs : List Va) (i fuel : Nat) (kn : Kn) (st : St) (x y : Option Va), all.drop i = fs → i ≤ all.length → fs.length < fuel → voks fs = true → StOk st → st.1 ≤ 3000 → kn.length + fs.length ≤ 1000 →
    LoopR M prog (funsP i kn st fs) (forL (.enu all) (tgSet tg) (fun env M => dSs (orcN pg.fs (n + 66)) b7_require_program env M) fuel i [some prog, some (.ref M.length), some (.ref (M.length + 2)), x, y] (RR M kn st.1 st.2))
  | [], i, fuel, kn, st, x, y, hd, hi, hf, hv, h1, h2, hz => by
    cases fuel with
    | zero => omega
    | succ fuel =>
      have e : all[i]? = none := by
        have := congrArg List.length hd
        simp at this
        exact List.getElem?_eq_none (by omega)
      exact ⟨h1, h2, x, y, forL_stop (by simp only [Itv.at, e, Option.map_none])⟩
  | f :: fs, i, fuel, kn, st, x, y, hd, hi, hf, hv, h1, h2, hz => by
    cases fuel with
    | zero => omega
    | succ fuel =>
      have hlt : i < all.length := by
        have := congrArg List.length hd
        simp at this
        omega
      have ed : all.drop i = all[i] :: all.drop (i + 1) := List.drop_eq_getElem_cons hlt
      rw [hd] at ed
      injection ed with e1 e2
      have eg : all[i]? = some f := by rw [e1]; exact List.getElem?_eq_getElem hlt
      simp only [voks, Bool.and_eq_true] at hv
      simp only [List.length_cons] at hz hf
      have hb := rq_body (n := n) (M := M) (kn := kn) (st := st) (prog := prog) (i := i) hv.1 h1 h2 (by rw [sizeLine_eq']; omega)
      unfold funsP
      cases hs : stepP i kn st f with
      | error p =>
        rw [hs] at hb
        obtain ⟨env', st', hb⟩ := hb
        rw [forL_exc (by simp only [Itv.at, eg, Option.map_some]) (htg _ _ _ _ _ _ _) hb]
        exact ⟨env', kn, st', rfl⟩
      | ok q =>
        obtain ⟨kn', st'⟩ := q
        rw [hs] at hb
        obtain ⟨a1, a2, a3⟩ := step_inv h1 h2 hs
        rw [forL_next (by simp only [Itv.at, eg, Option.map_some]) (htg _ _ _ _ _ _ _) hb]
        exact rq_loop htg all fs (i + 1) fuel kn' st' _ _ e2.symm hlt (by omega) hv.2 a1 a2 (by omega)
theorem dSs_nx {o : Orc} {s : S} {ss : Ss} {env env' : Dn.Env} {M M' : Mem} (h : dS o s env M = .nx env' M') : dSs o (.cons s ss) env M = dSs o ss env' M' := by
  rw [dSs, h]
theorem dSs_exc {o : Orc} {s : S} {ss : Ss} {env env' : Dn.Env} {M M' : Mem} {c : Nat} {v : Va} (h : dS o s env M = .exc c v env' M') : dSs o (.cons s ss) env M = .exc c v env' M' := by
  rw [dSs, h]
theorem dSs_rt {o : Orc} {s : S} {ss : Ss} {env : Dn.Env} {M M' : Mem} {v : Va} (h : dS o s env M = .rt v M') : dSs o (.cons s ss) env M = .rt v M' := by
  rw [dSs, h]
theorem dSs_nil {o : Orc} {env : Dn.Env} {M : Mem} : dSs o .nil env M = .nx env M := by
  rw [dSs]
theorem rq_12 {n : Nat} {M : Mem} {prog : Va} {x1 x2 x3 x4 : Option Va} : dS (orcN pg.fs (n + 2)) s12_require_program [some prog, x1, x2, x3, x4] M = .nx [some prog, some (.ref M.length), some (.ref (M.length + 2)), x3, x4] (RR M [] 0 []) := by
  have e := ci_Checker___init__ n (.ref M.length) (M ++ [.ins 0 []])
  have e2 : (M ++ [Ob.ins 0 []])[M.length]? = some (.ins 0 []) := by simp
  have e3 : (M ++ [Ob.ins 0 [(1, Va.int 0)]])[M.length]? = some (.ins 0 [(1, Va.int 0)]) := by simp
  have e4 : (dSs (orcN pg.fs n) b_Checker___init__ [some (.ref M.length)] (M ++ [.ins 0 []])).toR = .ok .non (M ++ [insO (M.length + 1) 0, .dic []]) := by
    simp [b_Checker___init__, dSs, dS, dE, dEs, dB_one, dB_and, dB_or, ite_and, ite_or, dC, dI, dO, Res.bind, Res.toS, Res.ofO, Rs.toR, Rs.ofO, opC, eqL, asB, eqC_int, flat, sz0, sz1, sz2, sz3, sz4, sz5, sz6, sz7, setFld, put, insO]
  rw [e4] at e
  have e5 : (orcN pg.fs (n + 2)).ini 11 [.ref M.length] (M ++ [.ins 0 []]) = .ok .non (M ++ [insO (M.length + 1) 0, .dic []]) := e
  simp [s12_require_program, dSs, dS, dE, dEs, dB_one, dB_and, dB_or, ite_and, ite_or, dC, dI, dO, Res.bind, Res.toS, Res.ofO, Rs.toR, Rs.ofO, opC, eqL, asB, eqC_int, flat, sz0, sz1, sz2, sz3, sz4, sz5, sz6, sz7, e5, Res.calm, madeOf, RR]
theorem RR_app (M : Mem) (kn : Kn) (cnt : Int) (nms : Kn) : ∃ X, RR M kn cnt nms = M ++ X := ⟨_, rfl⟩
def ReqOut (M : Mem) : Option (List Va) → Res Va → Prop
  | none, r => ∃ X, r = .ok .non (M ++ X)
  | some p, r => ∃ X, r = .exc 4 (.tup p) (M ++ X)
theorem require_ok {n : Nat} {M : Mem} {prog : Va} (hv : vok prog = true) : ReqOut M (reqP prog) ((orcN pg.fs (n + 67)).cl 13 [prog] M) := by
  rw [show n + 67 = (n + 66) + 1 by omega, c_require_program]
  have none_ : ∀ P : Va → Prop, True := fun _ => trivial
  cases prog with
  | tup xs =>
    by_cases hx : xs.length = 2
    · rcases xs with _ | ⟨a, _ | ⟨main, _ | ⟨c, t⟩⟩⟩
      · simp at hx
      · simp at hx
      · have hv' := hv
        simp only [vok, voks, Bool.and_eq_true, decide_eq_true_eq] at hv'
        cases a with
        | tup fs =>
          have e10 : ∀ env, dS (orcN pg.fs (n + 66)) s10_require_program (some (.tup [.tup fs, main]) :: env) M = .nx (some (.tup [.tup fs, main]) :: env) M := by
            intro env
            simp [s10_require_program, s1_require_program, dSs, dS, dE, dEs, dB_one, dB_and, dB_or, ite_and, ite_or, dC, dI, dO, Res.bind, Res.toS, Res.ofO, Rs.toR, Rs.ofO, opC, eqL, asB, eqC_int, flat, sz0, sz1, sz2, sz3, sz4, sz5, sz6, sz7, isi_tuple hv, isi_tuple hv'.2.1, tupV, opF, itemsS, opIx, atI0]
          by_cases h20 : 20 < fs.length
          · have h20' : (20 : Int) < fs.length := by omega
            have hr : reqP (.tup [.tup fs, main]) = some [] := by simp [reqP, h20]
            rw [hr]
            refine ⟨[], ?_⟩
            simp only [b_require_program, dSs, e10]
            simp [s11_require_program, s2_require_program, dSs, dS, dE, dEs, dB_one, dB_and, dB_or, ite_and, ite_or, dC, dI, dO, Res.bind, Res.toS, Res.ofO, Rs.toR, Rs.ofO, opC, eqL, asB, eqC_int, flat, sz0, sz1, sz2, sz3, sz4, sz5, sz6, sz7, opF, itemsS, opIx, atI0, h20']
          · have h20' : ¬ (20 : Int) < fs.length := by omega
            have e11 : ∀ env, dS (orcN pg.fs (n + 66)) s11_require_program (some (.tup [.tup fs, main]) :: env) M = .nx (some (.tup [.tup fs, main]) :: env) M := by
              intro env
              simp [s11_require_program, s2_require_program, dSs, dS, dE, dEs, dB_one, dB_and, dB_or, ite_and, ite_or, dC, dI, dO, Res.bind, Res.toS, Res.ofO, Rs.toR, Rs.ofO, opC, eqL, asB, eqC_int, flat, sz0, sz1, sz2, sz3, sz4, sz5, sz6, sz7, opF, itemsS, opIx, atI0, h20']
            have hvf := hv'.2.1
            simp only [vok, Bool.and_eq_true, decide_eq_true_eq] at hvf
            have hloop := rq_loop (n := n) (M := M) (prog := .tup [.tup fs, main]) (tg := tgOf l8_require_program) (fun a b x0 x1 x2 x3 x4 => by simp [tgOf, l8_require_program, tgSet, tgsSet]) fs fs 0 fuelW [] (0, []) none none rfl (Nat.zero_le _) (by unfold fuelW; omega) hvf.2 (by show (0 : Int) ≤ 0; omega) (by show (0 : Int) ≤ 3000; omega) (by simp; omega)
            have hI : dI (orcN pg.fs (n + 66)) (itOf l8_require_program) [some (.tup [.tup fs, main]), some (.ref M.length), some (.ref (M.length + 2)), none, none] (RR M [] 0 []) = .ok (.enu fs) (RR M [] 0 []) := by
              simp [itOf, l8_require_program, dSs, dS, dE, dEs, dB_one, dB_and, dB_or, ite_and, ite_or, dC, dI, dO, Res.bind, Res.toS, Res.ofO, Rs.toR, Rs.ofO, opC, eqL, asB, eqC_int, flat, sz0, sz1, sz2, sz3, sz4, sz5, sz6, sz7, opIx, atI0, enuOf]
            have h8 : dS (orcN pg.fs (n + 66)) l8_require_program [some (.tup [.tup fs, main]), some (.ref M.length), some (.ref (M.length + 2)), none, none] (RR M [] 0 []) = forL (.enu fs) (tgSet (tgOf l8_require_program)) (fun env M => dSs (orcN pg.fs (n + 66)) b7_require_program env M) fuelW 0 [some (.tup [.tup fs, main]), some (.ref M.length), some (.ref (M.length + 2)), none, none] (RR M [] 0 []) := for_eq hI
            simp only at hloop
            rw [← h8] at hloop
            have hrq : reqP (.tup [.tup fs, main]) = match funsP 0 [] (0, []) fs with
                | .error p => some p
                | .ok (kn, st) => match lookP kn 61 main [.int (-1)] 0 false st with
                  | (_, some p) => some p
                  | (st', none) => if 40 < st'.2.length then some [] else match unfP 61 fs main with
                    | some z => if 3000 < z then some [] else none
                    | none => some [] := by
              simp only [reqP, h20, if_false]
              all_goals rfl
            rw [hrq]
            have hstart : ∀ r, dSs (orcN pg.fs (n + 66)) b_require_program [some (.tup [.tup fs, main]), none, none, none, none] M = r ↔ dSs (orcN pg.fs (n + 66)) (.cons l8_require_program (.cons s13_require_program (.cons s14_require_program .nil))) [some (.tup [.tup fs, main]), some (.ref M.length), some (.ref (M.length + 2)), none, none] (RR M [] 0 []) = r := by
              intro r
              conv => lhs; simp only [b_require_program]; rw [dSs, e10]; simp only; rw [dSs, e11]; simp only; rw [dSs, rq_12]
            cases hf : funsP 0 [] (0, []) fs with
            | error p =>
              rw [hf] at hloop
              obtain ⟨env', kn', st', hl⟩ := hloop
              obtain ⟨X, hX⟩ := RR_app M kn' st'.1 st'.2
              refine ⟨X, ?_⟩
              rw [(hstart _).mpr (dSs_exc hl), ← hX]
              rfl
            | ok q =>
              obtain ⟨kn, st⟩ := q
              rw [hf] at hloop
              obtain ⟨g1, g2, x, y, hl⟩ := hloop
              have el := look_R (n := n) (M := M) (kn := kn) (tree := main) (path := [.int (-1)]) (loops := 0) (within := false) hv'.2.2.1 rfl g1 g2
              dsimp only
              cases hq : lookP kn 61 main [.int (-1)] 0 false st with
              | mk st' q =>
                rw [hq] at el
                obtain ⟨c', nm'⟩ := st'
                cases q with
                | some p =>
                  simp only [resR] at el
                  obtain ⟨X, hX⟩ := RR_app M kn c' nm'
                  refine ⟨X, ?_⟩
                  have e13 : dS (orcN pg.fs (n + 66)) s13_require_program [some (.tup [.tup fs, main]), some (.ref M.length), some (.ref (M.length + 2)), x, y] (RR M kn st.1 st.2) = .exc 4 (.tup p) [some (.tup [.tup fs, main]), some (.ref M.length), some (.ref (M.length + 2)), x, y] (RR M kn c' nm') := by
                    simp [s13_require_program, dSs, dS, dE, dEs, dB_one, dB_and, dB_or, ite_and, ite_or, dC, dI, dO, Res.bind, Res.toS, Res.ofO, Rs.toR, Rs.ofO, opC, eqL, asB, eqC_int, flat, sz0, sz1, sz2, sz3, sz4, sz5, sz6, sz7, RR_c, insO, opIx, atI1, el]
                  rw [(hstart _).mpr ((dSs_nx hl).trans (dSs_exc e13)), ← hX]
                  rfl
                | none =>
                  simp only [resR] at el
                  have e13 : dS (orcN pg.fs (n + 66)) s13_require_program [some (.tup [.tup fs, main]), some (.ref M.length), some (.ref (M.length + 2)), x, y] (RR M kn st.1 st.2) = .nx [some (.tup [.tup fs, main]), some (.ref M.length), some (.ref (M.length + 2)), x, y] (RR M kn c' nm') := by
                    simp [s13_require_program, dSs, dS, dE, dEs, dB_one, dB_and, dB_or, ite_and, ite_or, dC, dI, dO, Res.bind, Res.toS, Res.ofO, Rs.toR, Rs.ofO, opC, eqL, asB, eqC_int, flat, sz0, sz1, sz2, sz3, sz4, sz5, sz6, sz7, RR_c, insO, opIx, atI1, el]
                  obtain ⟨sz, z, hz1, hz2⟩ := unf_some hf hq
                  have hu : unfP 61 fs main = some z := by simp only [unfP, hz1, hz2]
                  have eu := unf_ok (n := n + 3) (M := RR M kn c' nm') hv hz1 hz2
                  rw [show n + 3 + 61 + 2 = n + 66 by omega] at eu
                  dsimp only
                  rw [hu]
                  by_cases h40 : 40 < nm'.length
                  · have h40' : (40 : Int) < nm'.length := by omega
                    rw [if_pos h40]
                    obtain ⟨X, hX⟩ := RR_app M kn c' nm'
                    refine ⟨X, ?_⟩
                    have e14 : dS (orcN pg.fs (n + 66)) s14_require_program [some (.tup [.tup fs, main]), some (.ref M.length), some (.ref (M.length + 2)), x, y] (RR M kn c' nm') = .exc 4 (.tup []) [some (.tup [.tup fs, main]), some (.ref M.length), some (.ref (M.length + 2)), x, y] (RR M kn c' nm') := by
                      simp [s14_require_program, s9_require_program, dSs, dS, dE, dEs, dB_one, dB_and, dB_or, ite_and, ite_or, dC, dI, dO, Res.bind, Res.toS, Res.ofO, Rs.toR, Rs.ofO, opC, eqL, asB, eqC_int, flat, sz0, sz1, sz2, sz3, sz4, sz5, sz6, sz7, opF, fldOf, RR_c, RR_n, insO, look, h40']
                    rw [(hstart _).mpr ((dSs_nx hl).trans ((dSs_nx e13).trans (dSs_exc e14))), ← hX]
                    rfl
                  · have h40' : ¬ (40 : Int) < nm'.length := by omega
                    rw [if_neg h40]
                    by_cases hz : 3000 < z
                    · simp only [hz, if_true]
                      refine ⟨[insO (M.length + 1) c', .dic nm', .dic kn, .dic sz], ?_⟩
                      have e14 : dS (orcN pg.fs (n + 66)) s14_require_program [some (.tup [.tup fs, main]), some (.ref M.length), some (.ref (M.length + 2)), x, y] (RR M kn c' nm') = .exc 4 (.tup []) [some (.tup [.tup fs, main]), some (.ref M.length), some (.ref (M.length + 2)), x, y] (RR M kn c' nm' ++ [.dic sz]) := by
                        simp [s14_require_program, s9_require_program, dSs, dS, dE, dEs, dB_one, dB_and, dB_or, ite_and, ite_or, dC, dI, dO, Res.bind, Res.toS, Res.ofO, Rs.toR, Rs.ofO, opC, eqL, asB, eqC_int, flat, sz0, sz1, sz2, sz3, sz4, sz5, sz6, sz7, opF, fldOf, RR_c, RR_n, insO, look, h40', eu, hz]
                      rw [(hstart _).mpr ((dSs_nx hl).trans ((dSs_nx e13).trans (dSs_exc e14)))]
                      simp [Rs.toR, RR]
                    · simp only [hz, if_false]
                      refine ⟨[insO (M.length + 1) c', .dic nm', .dic kn, .dic sz], ?_⟩
                      have e14 : dS (orcN pg.fs (n + 66)) s14_require_program [some (.tup [.tup fs, main]), some (.ref M.length), some (.ref (M.length + 2)), x, y] (RR M kn c' nm') = .nx [some (.tup [.tup fs, main]), some (.ref M.length), some (.ref (M.length + 2)), x, y] (RR M kn c' nm' ++ [.dic sz]) := by
                        simp [s14_require_program, s9_require_program, dSs, dS, dE, dEs, dB_one, dB_and, dB_or, ite_and, ite_or, dC, dI, dO, Res.bind, Res.toS, Res.ofO, Rs.toR, Rs.ofO, opC, eqL, asB, eqC_int, flat, sz0, sz1, sz2, sz3, sz4, sz5, sz6, sz7, opF, fldOf, RR_c, RR_n, insO, look, h40', eu, hz]
                      rw [(hstart _).mpr ((dSs_nx hl).trans ((dSs_nx e13).trans ((dSs_nx e14).trans dSs_nil)))]
                      simp [Rs.toR, RR]
        | _ =>
          refine ⟨[], ?_⟩
          simp [b_require_program, s10_require_program, s1_require_program, dSs, dS, dE, dEs, dB_one, dB_and, dB_or, ite_and, ite_or, dC, dI, dO, Res.bind, Res.toS, Res.ofO, Rs.toR, Rs.ofO, opC, eqL, asB, eqC_int, flat, sz0, sz1, sz2, sz3, sz4, sz5, sz6, sz7, isi_tuple hv, isi_tuple hv'.2.1, tupV, opF, itemsS, opIx, atI0]
      · simp at hx
    · have hr : reqP (.tup xs) = some [] := by
        unfold reqP
        split
        · rename_i e; injection e with e; subst e; simp at hx
        · rfl
      have hx' : ¬ (xs.length : Int) = 2 := by omega
      rw [hr]
      refine ⟨[], ?_⟩
      simp [b_require_program, s10_require_program, s1_require_program, dSs, dS, dE, dEs, dB_one, dB_and, dB_or, ite_and, ite_or, dC, dI, dO, Res.bind, Res.toS, Res.ofO, Rs.toR, Rs.ofO, opC, eqL, asB, eqC_int, flat, sz0, sz1, sz2, sz3, sz4, sz5, sz6, sz7, isi_tuple hv, tupV, opF, itemsS, hx']
  | _ =>
    refine ⟨[], ?_⟩
    simp [b_require_program, s10_require_program, s1_require_program, dSs, dS, dE, dEs, dB_one, dB_and, dB_or, ite_and, ite_or, dC, dI, dO, Res.bind, Res.toS, Res.ofO, Rs.toR, Rs.ofO, opC, eqL, asB, eqC_int, flat, sz0, sz1, sz2, sz3, sz4, sz5, sz6, sz7, isi_tuple hv, tupV]
end K19
namespace K19
open PySem Dn Pr
/-! the source of draws -/
def srcO (a c k : Int) : Ob := .lst [.int a, .int c, .int k]
def Src (M : Mem) (s : Nat) : Prop := ∃ a c k, M[s]? = some (srcO a c k)
theorem Src.lt {M : Mem} {s : Nat} (h : Src M s) : s < M.length := by
  obtain ⟨a, c, k, h⟩ := h
  exact (List.getElem?_eq_some_iff.mp h).1
theorem Src.app {M : Mem} {s : Nat} (h : Src M s) (X : Mem) : Src (M ++ X) s := by
  have hl := h.lt
  obtain ⟨a, c, k, h⟩ := h
  exact ⟨a, c, k, by rw [List.getElem?_append_left hl]; exact h⟩
theorem mulOk_l {i j : Int} (h1 : -(2 ^ 64) < i) (h2 : i < 2 ^ 64) : mulOk i j = true := by
  simp only [mulOk, i64, Bool.or_eq_true, Bool.and_eq_true, decide_eq_true_eq]
  exact .inl (.inl ⟨h1, h2⟩)
theorem mulOk_r {i j : Int} (h1 : -(2 ^ 64) < j) (h2 : j < 2 ^ 64) : mulOk i j = true := by
  simp only [mulOk, i64, Bool.or_eq_true, Bool.and_eq_true, decide_eq_true_eq]
  exact .inl (.inr ⟨h1, h2⟩)
theorem mod_lt {c m : Int} (h : 0 < m) : 0 ≤ c % m ∧ c % m < m := ⟨Int.emod_nonneg _ (by omega), Int.emod_lt_of_pos _ h⟩
theorem mixed_ok (n : Nat) (c k : Int) (M : Mem) : ∃ r : Int, (orcN pg.fs (n + 1)).cl 49 [.int c, .int k] M = .ok (.int r) M := by
  rw [c__law_mixed]
  have a1 : ∀ j, mulOk (c % 2147483646 + 1) j = true := fun j => mulOk_l (by have := mod_lt (c := c) (m := 2147483646) (by omega); omega) (by have := mod_lt (c := c) (m := 2147483646) (by omega); omega)
  have a2 : ∀ i, mulOk i 7919 = true := fun i => mulOk_r (by omega) (by omega)
  have a3 : ∀ i j, mulOk (i % 1000003) j = true := fun i j => mulOk_l (by have := mod_lt (c := i) (m := 1000003) (by omega); omega) (by have := mod_lt (c := i) (m := 1000003) (by omega); omega)
  have a4 : ∀ i, mulOk i 48271 = true := fun i => mulOk_r (by omega) (by omega)
  have a5 : ∀ i j, mulOk (i % 2147483629) j = true := fun i j => mulOk_l (by have := mod_lt (c := i) (m := 2147483629) (by omega); omega) (by have := mod_lt (c := i) (m := 2147483629) (by omega); omega)
  have a6 : ∀ i j, mulOk (i % 2147483587) j = true := fun i j => mulOk_l (by have := mod_lt (c := i) (m := 2147483587) (by omega); omega) (by have := mod_lt (c := i) (m := 2147483587) (by omega); omega)
  have l1 : (2147483646 : Int).natAbs.log2 < 9000 := by decide
  have l2 : (1013 : Int).natAbs.log2 < 9000 := by decide
  have l3 : (2003 : Int).natAbs.log2 < 9000 := by decide
  simp only [b__law_mixed, dSs, dS, dE, dEs, dB_one, dB_and, dB_or, ite_and, ite_or, dC, dI, dO, Res.bind, Res.toS, Res.ofO, Rs.toR, Rs.ofO, opC, eqL, asB, eqC_int, flat, sz0, sz1, sz2, sz3, sz4, sz5, sz6, sz7, opB, opF, List.getElem?_cons_zero, List.getElem?_cons_succ, List.set_cons_zero, List.set_cons_succ, a1, a2, a3, a4, a5, a6, l1, l2, l3, if_true, and_true, Int.reduceLT]
  exact ⟨_, rfl⟩
theorem take_ok {n : Nat} {M : Mem} {s : Nat} {b : Int} (hs : Src M s) (h0 : 0 < b) (hb : b.natAbs.log2 < 9000) : ∃ d o, (orcN pg.fs (n + 2)).cl 51 [.ref s, .int b] M = .ok (.int d) (M.set s o) ∧ 0 ≤ d ∧ d < b ∧ Src (M.set s o) s := by
  have hl := hs.lt
  obtain ⟨a, c, k, hs⟩ := hs
  unfold srcO at hs
  rw [c__law_take]
  have p18 : opB false .Pow (.int 10) (.int 18) M = .ok (.int 1000000000000000000) M := by
    simp [opB]
  have i0 : ∀ xs : List Va, xs.length = 3 → L2.ixN xs.length 0 = some 0 := by intro xs h; rw [h]; rfl
  have i2 : ∀ xs : List Va, xs.length = 3 → L2.ixN xs.length 2 = some 2 := by intro xs h; rw [h]; rfl
  have at0 : L2.atI [Va.int a, .int c, .int k] 0 = some (.int a) := rfl
  have at2 : L2.atI [Va.int a, .int c, .int k] 2 = some (.int k) := rfl
  by_cases hc : (1000000000000000000 : Int) ≤ a
  · refine ⟨a % b, srcO (a / b) c k, ?_, (mod_lt h0).1, (mod_lt h0).2, a / b, c, k, by rw [List.getElem?_set_self hl]⟩
    have e4 : dS (orcN pg.fs (n + 1)) s4__law_take [some (.ref s), some (.int b), none] M = .rt (.int (a % b)) (M.set s (srcO (a / b) c k)) := by
      simp [s4__law_take, s1__law_take, s2__law_take, s3__law_take, dSs, dS, dE, dEs, dB_one, dB_and, dB_or, ite_and, ite_or, dC, dI, dO, Res.bind, Res.toS, Res.ofO, Rs.toR, Rs.ofO, opC, eqL, asB, eqC_int, flat, sz0, sz1, sz2, sz3, sz4, sz5, sz6, sz7, opIx, hs, at0, p18, hc, opF, opB, h0, hb, setAt, srcO]
      rfl
    simp only [b__law_take]
    rw [dSs_rt e4]
    rfl
  · obtain ⟨r, hr⟩ := mixed_ok n c (k + 1) (M.set s (srcO a c (k + 1)))
    refine ⟨r % b, srcO a c (k + 1), ?_, (mod_lt h0).1, (mod_lt h0).2, a, c, k + 1, by rw [List.getElem?_set_self hl]⟩
    have e4 : dS (orcN pg.fs (n + 1)) s4__law_take [some (.ref s), some (.int b), none] M = .nx [some (.ref s), some (.int b), none] M := by
      simp [s4__law_take, s1__law_take, s2__law_take, s3__law_take, dSs, dS, dE, dEs, dB_one, dB_and, dB_or, ite_and, ite_or, dC, dI, dO, Res.bind, Res.toS, Res.ofO, Rs.toR, Rs.ofO, opC, eqL, asB, eqC_int, flat, sz0, sz1, sz2, sz3, sz4, sz5, sz6, sz7, opIx, hs, at0, p18, hc]
    have e5 : dS (orcN pg.fs (n + 1)) s5__law_take [some (.ref s), some (.int b), none] M = .nx [some (.ref s), some (.int b), none] (M.set s (srcO a c (k + 1))) := by
      simp [s5__law_take, dSs, dS, dE, dEs, dB_one, dB_and, dB_or, ite_and, ite_or, dC, dI, dO, Res.bind, Res.toS, Res.ofO, Rs.toR, Rs.ofO, opC, eqL, asB, eqC_int, flat, sz0, sz1, sz2, sz3, sz4, sz5, sz6, sz7, opIx, hs, at2, opB, setAt, srcO]
      rfl
    have at1 : L2.atI [Va.int a, .int c, .int (k + 1)] 1 = some (.int c) := rfl
    have at2' : L2.atI [Va.int a, .int c, .int (k + 1)] 2 = some (.int (k + 1)) := rfl
    have hg : (M.set s (srcO a c (k + 1)))[s]? = some (.lst [.int a, .int c, .int (k + 1)]) := by rw [List.getElem?_set_self hl]; rfl
    simp only [b__law_take]
    rw [dSs_nx e4, dSs_nx e5]
    simp [s6__law_take, dSs, dS, dE, dEs, dB_one, dB_and, dB_or, ite_and, ite_or, dC, dI, dO, Res.bind, Res.toS, Res.ofO, Rs.toR, Rs.ofO, opC, eqL, asB, eqC_int, flat, sz0, sz1, sz2, sz3, sz4, sz5, sz6, sz7, opIx, hg, at1, at2', hr, opF, opB, h0]
/-! comparisons of data -/
mutual
theorem vread_pure (f : Nat → Option Va) : ∀ v : Va, vpure v = true → vread f v = some v
  | .non, _ => rfl
  | .bl _, _ => rfl
  | .int _, _ => rfl
  | .str _, _ => rfl
  | .tup xs, h => by rw [vread, vreads_pure f xs (by simpa [vpure] using h)]; rfl
  | .lst xs, h => by rw [vread, vreads_pure f xs (by simpa [vpure] using h)]; rfl
  | .ref _, h => by cases h
theorem vreads_pure (f : Nat → Option Va) : ∀ vs : List Va, vpures vs = true → vreads f vs = some vs
  | [], _ => rfl
  | v :: vs, h => by
    simp only [vpures, Bool.and_eq_true] at h
    rw [vreads, vread_pure f v h.1, vreads_pure f vs h.2]
end
theorem eqC_ok {M : Mem} {v w : Va} (h1 : okD v = true) (h2 : okD w = true) : eqC M v w = some (veq v w) := by
  have p1 := h1
  have p2 := h2
  simp only [okD, Bool.and_eq_true] at p1 p2
  unfold eqC
  rw [vread_pure _ v p1.1, vread_pure _ w p2.1]
  simp only [h1, h2, Bool.and_self, if_true]
mutual
theorem veq_refl : ∀ v : Va, vpure v = true → veq v v = true
  | .non, _ => rfl
  | .bl b, _ => by simp [veq]
  | .int i, _ => by simp [veq]
  | .str s, _ => by simp [veq]
  | .tup xs, h => by rw [veq]; exact veqs_refl xs (by simpa [vpure] using h)
  | .lst xs, h => by rw [veq]; exact veqs_refl xs (by simpa [vpure] using h)
  | .ref _, h => by cases h
theorem veqs_refl : ∀ vs : List Va, vpures vs = true → veqs vs vs = true
  | [], _ => rfl
  | v :: vs, h => by
    simp only [vpures, Bool.and_eq_true] at h
    rw [veqs, veq_refl v h.1, veqs_refl vs h.2]
    rfl
end
theorem eqC_self {M : Mem} {v : Va} (h : okD v = true) : eqC M v v = some true := by
  rw [eqC_ok h h, veq_refl v]
  simp only [okD, Bool.and_eq_true] at h
  exact h.1
theorem log_small {b : Int} (h0 : 0 < b) (h1 : b < 2 ^ 64) : b.natAbs.log2 < 9000 := by
  have : b.natAbs.log2 < 64 := (Nat.log2_lt (by omega)).mpr (by omega)
  omega
end K19
namespace K19
open PySem Dn Pr
def restR : Ss := .cons s3_run (.cons s4_run (.cons s5_run (.cons s6_run .nil)))
def outR : Rs → Option Va
  | .rt (.tup [_, w]) _ => some w
  | _ => none
mutual
theorem sh_pure (k : Nat) : ∀ v : Va, vpure v = true → shV k v = v
  | .non, _ => rfl
  | .bl _, _ => rfl
  | .int _, _ => rfl
  | .str _, _ => rfl
  | .tup xs, h => by rw [shV, shs_pure k xs (by simpa [vpure] using h)]
  | .lst xs, h => by rw [shV, shs_pure k xs (by simpa [vpure] using h)]
  | .ref _, h => by cases h
theorem shs_pure (k : Nat) : ∀ vs : List Va, vpures vs = true → shVs k vs = vs
  | [], _ => rfl
  | v :: vs, h => by
    simp only [vpures, Bool.and_eq_true] at h
    rw [shVs, sh_pure k v h.1, shs_pure k vs h.2]
end
theorem le2 {k : Nat} {a b : Va} (ha : vpure a = true) (hb : vpure b = true) : LeE k [some a, some b, none, none, none, none] [some a, some b, none, none, none, none] := by
  refine ⟨rfl, fun i v h => ?_⟩
  rcases i with _ | _ | _ | _ | _ | _ | i
  · simp at h; subst h; simp [sh_pure k _ ha]
  · simp at h; subst h; simp [sh_pure k _ hb]
  all_goals simp at h
theorem run_at {prog row res : Va} (hv : vok prog = true) (hq : reqP prog = none) (hp : vpure prog = true) (hr : vpure row = true) (hs : vpure res = true)
    (h : outR (dSs (orcN pg.fs 80) restR [some prog, some row, none, none, none, none] []) = some res) (n : Nat) (M : Mem) :
    ∃ v X, (orcN pg.fs (n + 81)).cl 48 [prog, row] M = .ok (.tup [v, res]) (M ++ X) := by
  rw [show n + 81 = (n + 80) + 1 by omega, c_run]
  have e := require_ok (n := n + 13) (M := M) hv
  rw [hq] at e
  obtain ⟨X, e⟩ := e
  have e2 : dS (orcN pg.fs (n + 80)) s2_run [some prog, some row, none, none, none, none] M = .nx [some prog, some row, none, none, none, none] (M ++ X) := by
    simp [s2_run, dSs, dS, dE, dEs, dB_one, dB_and, dB_or, ite_and, ite_or, dC, dI, dO, Res.bind, Res.toS, Res.ofO, Rs.toR, Rs.ofO, opC, eqL, asB, eqC_int, flat, sz0, sz1, sz2, sz3, sz4, sz5, sz6, sz7, e]
  unfold b_run
  rw [dSs_nx e2]
  have f := dSs_sh (P := M ++ X) (orcN_sh pg.fs 80 n) restR [some prog, some row, none, none, none, none] [some prog, some row, none, none, none, none] [] (le2 hp hr)
  rw [show shM (M ++ X) [] = M ++ X by simp [shM], Nat.add_comm 80 n] at f
  unfold restR at f h
  revert f h
  generalize dSs (orcN pg.fs 80) _ _ [] = R
  intro h f
  cases R with
  | rt v M1 =>
    have f : _ = _ := f
    rw [f]
    unfold outR at h
    split at h
    · rename_i a b M2 hR
      cases hR
      cases h
      refine ⟨shV (M ++ X).length a, X ++ M1.map (shO (M ++ X).length), ?_⟩
      simp [Rs.toR, shV, shVs, sh_pure _ _ hs, shM]
    · cases h
  | _ => cases h
end K19
namespace K19
open PySem Dn Pr
abbrev one (a : Nat) : Va := .int (Int.ofNat (a + 1))
abbrev oth (b : Nat) : Va := .int (Int.ofNat (b + 1))
abbrev nn (m : Nat) : Va := .int (Int.ofNat (m + 1))
def okQ : Option (List Va) → Bool
  | none => true
  | _ => false
theorem okQ_none {q : Option (List Va)} (h : okQ q = true) : q = none := by cases q with | none => rfl | some _ => cases h
theorem upto {k : Nat} {p : Nat → Bool} (h : (List.range k).all p = true) {m : Nat} (hm : m < k) : p m = true := List.all_eq_true.mp h m (List.mem_range.mpr hm)
def p0  : Va := (.tup [(.tup []), (.tup [(.str [105, 102]), (.tup [(.str [119, 104, 105, 108, 101]), (.tup [(.str [114, 117, 110]), (.str [97])]), (.tup [(.str [98, 114, 101, 97, 107]), (.int 1)])]), (.tup [(.str [114, 117, 110]), (.str [119, 101, 108, 108])]), (.tup [(.str [114, 117, 110]), (.str [98, 97, 100])])])])
def w0 (a b : Nat) : Va := (.lst [(.int 0)])
def v0 (a b m : Nat) : Va := (.tup [(.str [97, 115, 107, 115]), (.str [119, 101, 108, 108])])
theorem q0 : reqP p0 = none := by kernel_rfl
theorem h0 (a b m : Nat) : outR (dSs (orcN pg.fs 80) restR [some (p0), some (w0 a b), none, none, none, none] []) = some (v0 a b m) := by kernel_rfl
theorem r0 (a b m : Nat) : ∀ n M, ∃ v X, (orcN pg.fs (n + 81)).cl 48 [p0, w0 a b] M = .ok (.tup [v, v0 a b m]) (M ++ X) :=
  run_at (by kernel_rfl) (q0) (by kernel_rfl) (by kernel_rfl) (by kernel_rfl) (h0 a b m)
def p1 (m : Nat) : Va := (.tup [(.tup []), (.tup [(.str [105, 102]), (.tup [(.str [117, 110, 116, 105, 108]), (.tup [(.str [114, 117, 110]), (.str [97])]), (.tup [(.str [115, 116, 97, 116, 117, 115]), (nn m)])]), (.tup [(.str [114, 117, 110]), (.str [119, 101, 108, 108])]), (.tup [(.str [114, 117, 110]), (.str [98, 97, 100])])])])
def w1 (a b : Nat) : Va := (.lst [(one a), (.int 0)])
def v1 (a b m : Nat) : Va := (.tup [(.str [97, 115, 107, 115]), (.str [98, 97, 100])])
theorem q1 {m : Nat} (hm : m < 255) : reqP (p1 m) = none := okQ_none (upto (p := fun m => okQ (reqP (p1 m))) (by kernel_rfl) hm)
theorem h1 (a b m : Nat) : outR (dSs (orcN pg.fs 80) restR [some (p1 m), some (w1 a b), none, none, none, none] []) = some (v1 a b m) := by kernel_rfl
theorem r1 (a b m : Nat) (hm : m < 255) : ∀ n M, ∃ v X, (orcN pg.fs (n + 81)).cl 48 [p1 m, w1 a b] M = .ok (.tup [v, v1 a b m]) (M ++ X) :=
  run_at (by kernel_rfl) (q1 hm) (by kernel_rfl) (by kernel_rfl) (by kernel_rfl) (h1 a b m)
def p2  : Va := (.tup [(.tup []), (.tup [(.str [105, 102]), (.tup [(.str [119, 104, 105, 108, 101]), (.tup [(.str [114, 117, 110]), (.str [97])]), (.tup [(.str [114, 117, 110]), (.str [98])])]), (.tup [(.str [114, 117, 110]), (.str [119, 101, 108, 108])]), (.tup [(.str [114, 117, 110]), (.str [98, 97, 100])])])])
def w2 (a b : Nat) : Va := (.lst [(.int 0), (one a), (oth b)])
def v2 (a b m : Nat) : Va := (.tup [(.str [97, 115, 107, 115]), (.str [98, 97, 100])])
theorem q2 : reqP p2 = none := by kernel_rfl
theorem h2 (a b m : Nat) : outR (dSs (orcN pg.fs 80) restR [some (p2), some (w2 a b), none, none, none, none] []) = some (v2 a b m) := by kernel_rfl
theorem r2 (a b m : Nat) : ∀ n M, ∃ v X, (orcN pg.fs (n + 81)).cl 48 [p2, w2 a b] M = .ok (.tup [v, v2 a b m]) (M ++ X) :=
  run_at (by kernel_rfl) (q2) (by kernel_rfl) (by kernel_rfl) (by kernel_rfl) (h2 a b m)
def p3  : Va := (.tup [(.tup []), (.tup [(.str [105, 102]), (.tup [(.str [119, 104, 105, 108, 101]), (.tup [(.str [114, 117, 110]), (.str [97])]), (.tup [(.str [114, 117, 110]), (.str [98])])]), (.tup [(.str [114, 117, 110]), (.str [119, 101, 108, 108])]), (.tup [(.str [114, 117, 110]), (.str [98, 97, 100])])])])
def w3 (a b : Nat) : Va := (.lst [(.int 0), (one a), (.int 0), (.int 0), (oth b)])
def v3 (a b m : Nat) : Va := (.tup [(.str [97, 115, 107, 115]), (.str [119, 101, 108, 108])])
theorem q3 : reqP p3 = none := by kernel_rfl
theorem h3 (a b m : Nat) : outR (dSs (orcN pg.fs 80) restR [some (p3), some (w3 a b), none, none, none, none] []) = some (v3 a b m) := by kernel_rfl
theorem r3 (a b m : Nat) : ∀ n M, ∃ v X, (orcN pg.fs (n + 81)).cl 48 [p3, w3 a b] M = .ok (.tup [v, v3 a b m]) (M ++ X) :=
  run_at (by kernel_rfl) (q3) (by kernel_rfl) (by kernel_rfl) (by kernel_rfl) (h3 a b m)
def p4  : Va := (.tup [(.tup []), (.tup [(.str [105, 102]), (.tup [(.str [119, 104, 105, 108, 101]), (.tup [(.str [114, 117, 110]), (.str [97])]), (.tup [(.str [114, 117, 110]), (.str [98])])]), (.tup [(.str [114, 117, 110]), (.str [119, 101, 108, 108])]), (.tup [(.str [114, 117, 110]), (.str [98, 97, 100])])])])
def w4 (a b : Nat) : Va := (.lst [(one a)])
def v4 (a b m : Nat) : Va := (.tup [(.str [97, 115, 107, 115]), (.str [119, 101, 108, 108])])
theorem q4 : reqP p4 = none := by kernel_rfl
theorem h4 (a b m : Nat) : outR (dSs (orcN pg.fs 80) restR [some (p4), some (w4 a b), none, none, none, none] []) = some (v4 a b m) := by kernel_rfl
theorem r4 (a b m : Nat) : ∀ n M, ∃ v X, (orcN pg.fs (n + 81)).cl 48 [p4, w4 a b] M = .ok (.tup [v, v4 a b m]) (M ++ X) :=
  run_at (by kernel_rfl) (q4) (by kernel_rfl) (by kernel_rfl) (by kernel_rfl) (h4 a b m)
def p5  : Va := (.tup [(.tup []), (.tup [(.str [105, 102]), (.tup [(.str [116, 105, 109, 101, 115]), (.int 0), (.tup [(.str [114, 117, 110]), (.str [97])])]), (.tup [(.str [114, 117, 110]), (.str [119, 101, 108, 108])]), (.tup [(.str [114, 117, 110]), (.str [98, 97, 100])])])])
def w5 (a b : Nat) : Va := (.lst [])
def v5 (a b m : Nat) : Va := (.tup [(.str [97, 115, 107, 115]), (.str [119, 101, 108, 108])])
theorem q5 : reqP p5 = none := by kernel_rfl
theorem h5 (a b m : Nat) : outR (dSs (orcN pg.fs 80) restR [some (p5), some (w5 a b), none, none, none, none] []) = some (v5 a b m) := by kernel_rfl
theorem r5 (a b m : Nat) : ∀ n M, ∃ v X, (orcN pg.fs (n + 81)).cl 48 [p5, w5 a b] M = .ok (.tup [v, v5 a b m]) (M ++ X) :=
  run_at (by kernel_rfl) (q5) (by kernel_rfl) (by kernel_rfl) (by kernel_rfl) (h5 a b m)
def p6 (m : Nat) : Va := (.tup [(.tup []), (.tup [(.str [105, 102]), (.tup [(.str [116, 105, 109, 101, 115]), (.int 3), (.tup [(.str [105, 102]), (.tup [(.str [114, 117, 110]), (.str [97])]), (.tup [(.str [110, 101, 120, 116]), (.int 1)]), (.tup [(.str [115, 116, 97, 116, 117, 115]), (nn m)])])]), (.tup [(.str [114, 117, 110]), (.str [119, 101, 108, 108])]), (.tup [(.str [114, 117, 110]), (.str [98, 97, 100])])])])
def w6 (a b : Nat) : Va := (.lst [(.int 0), (one a), (.int 0)])
def v6 (a b m : Nat) : Va := (.tup [(.str [97, 115, 107, 115]), (.str [119, 101, 108, 108])])
theorem q6 {m : Nat} (hm : m < 255) : reqP (p6 m) = none := okQ_none (upto (p := fun m => okQ (reqP (p6 m))) (by kernel_rfl) hm)
theorem h6 (a b m : Nat) : outR (dSs (orcN pg.fs 80) restR [some (p6 m), some (w6 a b), none, none, none, none] []) = some (v6 a b m) := by kernel_rfl
theorem r6 (a b m : Nat) (hm : m < 255) : ∀ n M, ∃ v X, (orcN pg.fs (n + 81)).cl 48 [p6 m, w6 a b] M = .ok (.tup [v, v6 a b m]) (M ++ X) :=
  run_at (by kernel_rfl) (q6 hm) (by kernel_rfl) (by kernel_rfl) (by kernel_rfl) (h6 a b m)
def p7 (m : Nat) : Va := (.tup [(.tup []), (.tup [(.str [105, 102]), (.tup [(.str [116, 105, 109, 101, 115]), (.int 3), (.tup [(.str [105, 102]), (.tup [(.str [114, 117, 110]), (.str [97])]), (.tup [(.str [110, 101, 120, 116]), (.int 1)]), (.tup [(.str [115, 116, 97, 116, 117, 115]), (nn m)])])]), (.tup [(.str [114, 117, 110]), (.str [119, 101, 108, 108])]), (.tup [(.str [114, 117, 110]), (.str [98, 97, 100])])])])
def w7 (a b : Nat) : Va := (.lst [(.int 0), (.int 0), (one a)])
def v7 (a b m : Nat) : Va := (.tup [(.str [97, 115, 107, 115]), (.str [98, 97, 100])])
theorem q7 {m : Nat} (hm : m < 255) : reqP (p7 m) = none := okQ_none (upto (p := fun m => okQ (reqP (p7 m))) (by kernel_rfl) hm)
theorem h7 (a b m : Nat) : outR (dSs (orcN pg.fs 80) restR [some (p7 m), some (w7 a b), none, none, none, none] []) = some (v7 a b m) := by kernel_rfl
theorem r7 (a b m : Nat) (hm : m < 255) : ∀ n M, ∃ v X, (orcN pg.fs (n + 81)).cl 48 [p7 m, w7 a b] M = .ok (.tup [v, v7 a b m]) (M ++ X) :=
  run_at (by kernel_rfl) (q7 hm) (by kernel_rfl) (by kernel_rfl) (by kernel_rfl) (h7 a b m)
def p8 (m : Nat) : Va := (.tup [(.tup []), (.tup [(.str [105, 102]), (.tup [(.str [116, 105, 109, 101, 115]), (.int 3), (.tup [(.str [105, 102]), (.tup [(.str [114, 117, 110]), (.str [97])]), (.tup [(.str [110, 101, 120, 116]), (.int 1)]), (.tup [(.str [115, 116, 97, 116, 117, 115]), (nn m)])])]), (.tup [(.str [114, 117, 110]), (.str [119, 101, 108, 108])]), (.tup [(.str [114, 117, 110]), (.str [98, 97, 100])])])])
def w8 (a b : Nat) : Va := (.lst [(one a), (one a), (.int 0)])
def v8 (a b m : Nat) : Va := (.tup [(.str [97, 115, 107, 115]), (.str [119, 101, 108, 108])])
theorem q8 {m : Nat} (hm : m < 255) : reqP (p8 m) = none := okQ_none (upto (p := fun m => okQ (reqP (p8 m))) (by kernel_rfl) hm)
theorem h8 (a b m : Nat) : outR (dSs (orcN pg.fs 80) restR [some (p8 m), some (w8 a b), none, none, none, none] []) = some (v8 a b m) := by kernel_rfl
theorem r8 (a b m : Nat) (hm : m < 255) : ∀ n M, ∃ v X, (orcN pg.fs (n + 81)).cl 48 [p8 m, w8 a b] M = .ok (.tup [v, v8 a b m]) (M ++ X) :=
  run_at (by kernel_rfl) (q8 hm) (by kernel_rfl) (by kernel_rfl) (by kernel_rfl) (h8 a b m)
def p9  : Va := (.tup [(.tup []), (.tup [(.str [105, 102]), (.tup [(.str [119, 104, 105, 108, 101]), (.tup [(.str [114, 117, 110]), (.str [97])]), (.tup [(.str [117, 110, 116, 105, 108]), (.tup [(.str [115, 101, 113]), (.tup [(.tup [(.str [114, 117, 110]), (.str [98])]), (.tup [(.str [98, 114, 101, 97, 107]), (.int 2)])])]), (.tup [(.str [114, 117, 110]), (.str [99])])])]), (.tup [(.str [114, 117, 110]), (.str [119, 101, 108, 108])]), (.tup [(.str [114, 117, 110]), (.str [98, 97, 100])])])])
def w9 (a b : Nat) : Va := (.lst [(.int 0), (one a)])
def v9 (a b m : Nat) : Va := (.tup [(.str [97, 115, 107, 115]), (.str [119, 101, 108, 108])])
theorem q9 : reqP p9 = none := by kernel_rfl
theorem h9 (a b m : Nat) : outR (dSs (orcN pg.fs 80) restR [some (p9), some (w9 a b), none, none, none, none] []) = some (v9 a b m) := by kernel_rfl
theorem r9 (a b m : Nat) : ∀ n M, ∃ v X, (orcN pg.fs (n + 81)).cl 48 [p9, w9 a b] M = .ok (.tup [v, v9 a b m]) (M ++ X) :=
  run_at (by kernel_rfl) (q9) (by kernel_rfl) (by kernel_rfl) (by kernel_rfl) (h9 a b m)
def p10  : Va := (.tup [(.tup []), (.tup [(.str [105, 102]), (.tup [(.str [119, 104, 105, 108, 101]), (.tup [(.str [115, 101, 113]), (.tup [(.tup [(.str [114, 117, 110]), (.str [97])]), (.tup [(.str [98, 114, 101, 97, 107]), (.int 1)])])]), (.tup [(.str [114, 117, 110]), (.str [98])])]), (.tup [(.str [114, 117, 110]), (.str [119, 101, 108, 108])]), (.tup [(.str [114, 117, 110]), (.str [98, 97, 100])])])])
def w10 (a b : Nat) : Va := (.lst [(one a)])
def v10 (a b m : Nat) : Va := (.tup [(.str [97, 115, 107, 115]), (.str [119, 101, 108, 108])])
theorem q10 : reqP p10 = none := by kernel_rfl
theorem h10 (a b m : Nat) : outR (dSs (orcN pg.fs 80) restR [some (p10), some (w10 a b), none, none, none, none] []) = some (v10 a b m) := by kernel_rfl
theorem r10 (a b m : Nat) : ∀ n M, ∃ v X, (orcN pg.fs (n + 81)).cl 48 [p10, w10 a b] M = .ok (.tup [v, v10 a b m]) (M ++ X) :=
  run_at (by kernel_rfl) (q10) (by kernel_rfl) (by kernel_rfl) (by kernel_rfl) (h10 a b m)
def p11  : Va := (.tup [(.tup []), (.tup [(.str [105, 102]), (.tup [(.str [117, 110, 116, 105, 108]), (.tup [(.str [111, 114]), (.tup [(.str [114, 117, 110]), (.str [97])]), (.tup [(.str [110, 101, 120, 116]), (.int 1)])]), (.tup [(.str [114, 117, 110]), (.str [98])])]), (.tup [(.str [114, 117, 110]), (.str [119, 101, 108, 108])]), (.tup [(.str [114, 117, 110]), (.str [98, 97, 100])])])])
def w11 (a b : Nat) : Va := (.lst [(one a), (oth b), (.int 0)])
def v11 (a b m : Nat) : Va := (.tup [(.str [97, 115, 107, 115]), (.str [119, 101, 108, 108])])
theorem q11 : reqP p11 = none := by kernel_rfl
theorem h11 (a b m : Nat) : outR (dSs (orcN pg.fs 80) restR [some (p11), some (w11 a b), none, none, none, none] []) = some (v11 a b m) := by kernel_rfl
theorem r11 (a b m : Nat) : ∀ n M, ∃ v X, (orcN pg.fs (n + 81)).cl 48 [p11, w11 a b] M = .ok (.tup [v, v11 a b m]) (M ++ X) :=
  run_at (by kernel_rfl) (q11) (by kernel_rfl) (by kernel_rfl) (by kernel_rfl) (h11 a b m)
def p12  : Va := (.tup [(.tup []), (.tup [(.str [105, 102]), (.tup [(.str [117, 110, 116, 105, 108]), (.tup [(.str [115, 101, 113]), (.tup [(.tup [(.str [111, 114]), (.tup [(.str [114, 117, 110]), (.str [97])]), (.tup [(.str [110, 101, 120, 116]), (.int 1)])]), (.tup [(.str [114, 117, 110]), (.str [98])])])]), (.tup [(.str [114, 117, 110]), (.str [99])])]), (.tup [(.str [114, 117, 110]), (.str [119, 101, 108, 108])]), (.tup [(.str [114, 117, 110]), (.str [98, 97, 100])])])])
def w12 (a b : Nat) : Va := (.lst [(.int 0), (one a), (oth b), (one a), (.int 0), (.int 0)])
def v12 (a b m : Nat) : Va := (.tup [(.str [97, 115, 107, 115]), (.str [119, 101, 108, 108])])
theorem q12 : reqP p12 = none := by kernel_rfl
theorem h12 (a b m : Nat) : outR (dSs (orcN pg.fs 80) restR [some (p12), some (w12 a b), none, none, none, none] []) = some (v12 a b m) := by kernel_rfl
theorem r12 (a b m : Nat) : ∀ n M, ∃ v X, (orcN pg.fs (n + 81)).cl 48 [p12, w12 a b] M = .ok (.tup [v, v12 a b m]) (M ++ X) :=
  run_at (by kernel_rfl) (q12) (by kernel_rfl) (by kernel_rfl) (by kernel_rfl) (h12 a b m)
def p13  : Va := (.tup [(.tup []), (.tup [(.str [105, 102]), (.tup [(.str [116, 105, 109, 101, 115]), (.int 2), (.tup [(.str [116, 105, 109, 101, 115]), (.int 3), (.tup [(.str [115, 101, 113]), (.tup [(.tup [(.str [114, 117, 110]), (.str [97])]), (.tup [(.str [110, 101, 120, 116]), (.int 2)])])])])]), (.tup [(.str [114, 117, 110]), (.str [119, 101, 108, 108])]), (.tup [(.str [114, 117, 110]), (.str [98, 97, 100])])])])
def w13 (a b : Nat) : Va := (.lst [(one a), (oth b)])
def v13 (a b m : Nat) : Va := (.tup [(.str [97, 115, 107, 115]), (.str [119, 101, 108, 108])])
theorem q13 : reqP p13 = none := by kernel_rfl
theorem h13 (a b m : Nat) : outR (dSs (orcN pg.fs 80) restR [some (p13), some (w13 a b), none, none, none, none] []) = some (v13 a b m) := by kernel_rfl
theorem r13 (a b m : Nat) : ∀ n M, ∃ v X, (orcN pg.fs (n + 81)).cl 48 [p13, w13 a b] M = .ok (.tup [v, v13 a b m]) (M ++ X) :=
  run_at (by kernel_rfl) (q13) (by kernel_rfl) (by kernel_rfl) (by kernel_rfl) (h13 a b m)
def p14  : Va := (.tup [(.tup []), (.tup [(.str [105, 102]), (.tup [(.str [116, 105, 109, 101, 115]), (.int 2), (.tup [(.str [116, 105, 109, 101, 115]), (.int 3), (.tup [(.str [111, 114]), (.tup [(.str [114, 117, 110]), (.str [97])]), (.tup [(.str [98, 114, 101, 97, 107]), (.int 2)])])])]), (.tup [(.str [114, 117, 110]), (.str [119, 101, 108, 108])]), (.tup [(.str [114, 117, 110]), (.str [98, 97, 100])])])])
def w14 (a b : Nat) : Va := (.lst [(.int 0), (.int 0), (one a)])
def v14 (a b m : Nat) : Va := (.tup [(.str [97, 115, 107, 115]), (.str [119, 101, 108, 108])])
theorem q14 : reqP p14 = none := by kernel_rfl
theorem h14 (a b m : Nat) : outR (dSs (orcN pg.fs 80) restR [some (p14), some (w14 a b), none, none, none, none] []) = some (v14 a b m) := by kernel_rfl
theorem r14 (a b m : Nat) : ∀ n M, ∃ v X, (orcN pg.fs (n + 81)).cl 48 [p14, w14 a b] M = .ok (.tup [v, v14 a b m]) (M ++ X) :=
  run_at (by kernel_rfl) (q14) (by kernel_rfl) (by kernel_rfl) (by kernel_rfl) (h14 a b m)
def p15  : Va := (.tup [(.tup []), (.tup [(.str [105, 102]), (.tup [(.str [116, 105, 109, 101, 115]), (.int 2), (.tup [(.str [115, 101, 113]), (.tup [(.tup [(.str [116, 105, 109, 101, 115]), (.int 1), (.tup [(.str [111, 114]), (.tup [(.str [114, 117, 110]), (.str [97])]), (.tup [(.str [98, 114, 101, 97, 107]), (.int 1)])])]), (.tup [(.str [114, 117, 110]), (.str [98])])])])]), (.tup [(.str [114, 117, 110]), (.str [119, 101, 108, 108])]), (.tup [(.str [114, 117, 110]), (.str [98, 97, 100])])])])
def w15 (a b : Nat) : Va := (.lst [(one a), (.int 0), (.int 0), (oth b)])
def v15 (a b m : Nat) : Va := (.tup [(.str [97, 115, 107, 115]), (.str [98, 97, 100])])
theorem q15 : reqP p15 = none := by kernel_rfl
theorem h15 (a b m : Nat) : outR (dSs (orcN pg.fs 80) restR [some (p15), some (w15 a b), none, none, none, none] []) = some (v15 a b m) := by kernel_rfl
theorem r15 (a b m : Nat) : ∀ n M, ∃ v X, (orcN pg.fs (n + 81)).cl 48 [p15, w15 a b] M = .ok (.tup [v, v15 a b m]) (M ++ X) :=
  run_at (by kernel_rfl) (q15) (by kernel_rfl) (by kernel_rfl) (by kernel_rfl) (h15 a b m)
def p16  : Va := (.tup [(.tup []), (.tup [(.str [105, 102]), (.tup [(.str [110, 111, 116]), (.tup [(.str [119, 104, 105, 108, 101]), (.tup [(.str [114, 117, 110]), (.str [97])]), (.tup [(.str [115, 101, 113]), (.tup [(.tup [(.str [114, 117, 110]), (.str [98])]), (.tup [(.str [98, 114, 101, 97, 107]), (.int 1)])])])])]), (.tup [(.str [114, 117, 110]), (.str [119, 101, 108, 108])]), (.tup [(.str [114, 117, 110]), (.str [98, 97, 100])])])])
def w16 (a b : Nat) : Va := (.lst [(.int 0), (one a)])
def v16 (a b m : Nat) : Va := (.tup [(.str [97, 115, 107, 115]), (.str [98, 97, 100])])
theorem q16 : reqP p16 = none := by kernel_rfl
theorem h16 (a b m : Nat) : outR (dSs (orcN pg.fs 80) restR [some (p16), some (w16 a b), none, none, none, none] []) = some (v16 a b m) := by kernel_rfl
theorem r16 (a b m : Nat) : ∀ n M, ∃ v X, (orcN pg.fs (n + 81)).cl 48 [p16, w16 a b] M = .ok (.tup [v, v16 a b m]) (M ++ X) :=
  run_at (by kernel_rfl) (q16) (by kernel_rfl) (by kernel_rfl) (by kernel_rfl) (h16 a b m)
def p17  : Va := (.tup [(.tup []), (.tup [(.str [105, 102]), (.tup [(.str [115, 101, 113]), (.tup [(.tup [(.str [114, 117, 110]), (.str [97])]), (.tup [(.str [116, 105, 109, 101, 115]), (.int 1), (.tup [(.str [107, 101, 101, 112]), (.str [120])])]), (.tup [(.str [103, 105, 118, 101]), (.str [120])])])]), (.tup [(.str [114, 117, 110]), (.str [119, 101, 108, 108])]), (.tup [(.str [114, 117, 110]), (.str [98, 97, 100])])])])
def w17 (a b : Nat) : Va := (.lst [(one a)])
def v17 (a b m : Nat) : Va := (.tup [(.str [97, 115, 107, 115]), (.str [98, 97, 100])])
theorem q17 : reqP p17 = none := by kernel_rfl
theorem h17 (a b m : Nat) : outR (dSs (orcN pg.fs 80) restR [some (p17), some (w17 a b), none, none, none, none] []) = some (v17 a b m) := by kernel_rfl
theorem r17 (a b m : Nat) : ∀ n M, ∃ v X, (orcN pg.fs (n + 81)).cl 48 [p17, w17 a b] M = .ok (.tup [v, v17 a b m]) (M ++ X) :=
  run_at (by kernel_rfl) (q17) (by kernel_rfl) (by kernel_rfl) (by kernel_rfl) (h17 a b m)
def p18  : Va := (.tup [(.tup [(.tup [(.str [102]), (.tup [(.str [114, 101, 116, 117, 114, 110]), .non])])]), (.tup [(.str [105, 102]), (.tup [(.str [115, 101, 113]), (.tup [(.tup [(.str [114, 117, 110]), (.str [97])]), (.tup [(.str [99, 97, 108, 108]), (.str [102])])])]), (.tup [(.str [114, 117, 110]), (.str [119, 101, 108, 108])]), (.tup [(.str [114, 117, 110]), (.str [98, 97, 100])])])])
def w18 (a b : Nat) : Va := (.tup [(one a)])
def v18 (a b m : Nat) : Va := (.tup [(.str [97, 115, 107, 115]), (.str [98, 97, 100])])
theorem q18 : reqP p18 = none := by kernel_rfl
theorem h18 (a b m : Nat) : outR (dSs (orcN pg.fs 80) restR [some (p18), some (w18 a b), none, none, none, none] []) = some (v18 a b m) := by kernel_rfl
theorem r18 (a b m : Nat) : ∀ n M, ∃ v X, (orcN pg.fs (n + 81)).cl 48 [p18, w18 a b] M = .ok (.tup [v, v18 a b m]) (M ++ X) :=
  run_at (by kernel_rfl) (q18) (by kernel_rfl) (by kernel_rfl) (by kernel_rfl) (h18 a b m)
def p19  : Va := (.tup [(.tup [(.tup [(.str [102]), (.tup [(.str [114, 101, 116, 117, 114, 110]), .non])])]), (.tup [(.str [105, 102]), (.tup [(.str [115, 101, 113]), (.tup [(.tup [(.str [114, 117, 110]), (.str [97])]), (.tup [(.str [99, 97, 108, 108]), (.str [102])])])]), (.tup [(.str [114, 117, 110]), (.str [119, 101, 108, 108])]), (.tup [(.str [114, 117, 110]), (.str [98, 97, 100])])])])
def w19 (a b : Nat) : Va := (.tup [(.int 0)])
def v19 (a b m : Nat) : Va := (.tup [(.str [97, 115, 107, 115]), (.str [119, 101, 108, 108])])
theorem q19 : reqP p19 = none := by kernel_rfl
theorem h19 (a b m : Nat) : outR (dSs (orcN pg.fs 80) restR [some (p19), some (w19 a b), none, none, none, none] []) = some (v19 a b m) := by kernel_rfl
theorem r19 (a b m : Nat) : ∀ n M, ∃ v X, (orcN pg.fs (n + 81)).cl 48 [p19, w19 a b] M = .ok (.tup [v, v19 a b m]) (M ++ X) :=
  run_at (by kernel_rfl) (q19) (by kernel_rfl) (by kernel_rfl) (by kernel_rfl) (h19 a b m)
def p20  : Va := (.tup [(.tup [(.tup [(.str [102]), (.tup [(.str [115, 101, 113]), (.tup [(.tup [(.str [115, 116, 97, 116, 117, 115]), (.int 0)]), (.tup [(.str [114, 101, 116, 117, 114, 110]), .non])])])])]), (.tup [(.str [105, 102]), (.tup [(.str [115, 101, 113]), (.tup [(.tup [(.str [114, 117, 110]), (.str [97])]), (.tup [(.str [99, 97, 108, 108]), (.str [102])])])]), (.tup [(.str [114, 117, 110]), (.str [119, 101, 108, 108])]), (.tup [(.str [114, 117, 110]), (.str [98, 97, 100])])])])
def w20 (a b : Nat) : Va := (.tup [(one a)])
def v20 (a b m : Nat) : Va := (.tup [(.str [97, 115, 107, 115]), (.str [119, 101, 108, 108])])
theorem q20 : reqP p20 = none := by kernel_rfl
theorem h20 (a b m : Nat) : outR (dSs (orcN pg.fs 80) restR [some (p20), some (w20 a b), none, none, none, none] []) = some (v20 a b m) := by kernel_rfl
theorem r20 (a b m : Nat) : ∀ n M, ∃ v X, (orcN pg.fs (n + 81)).cl 48 [p20, w20 a b] M = .ok (.tup [v, v20 a b m]) (M ++ X) :=
  run_at (by kernel_rfl) (q20) (by kernel_rfl) (by kernel_rfl) (by kernel_rfl) (h20 a b m)
def p21 (m : Nat) : Va := (.tup [(.tup [(.tup [(.str [102]), (.tup [(.str [119, 104, 105, 108, 101]), (.tup [(.str [114, 117, 110]), (.str [97])]), (.tup [(.str [115, 101, 113]), (.tup [(.tup [(.str [114, 117, 110]), (.str [98])]), (.tup [(.str [114, 101, 116, 117, 114, 110]), (nn m)])])])])])]), (.tup [(.str [105, 102]), (.tup [(.str [99, 97, 108, 108]), (.str [102])]), (.tup [(.str [114, 117, 110]), (.str [119, 101, 108, 108])]), (.tup [(.str [114, 117, 110]), (.str [98, 97, 100])])])])
def w21 (a b : Nat) : Va := (.tup [(.int 0), (.int 0)])
def v21 (a b m : Nat) : Va := (.tup [(.str [97, 115, 107, 115]), (.str [98, 97, 100])])
theorem q21 {m : Nat} (hm : m < 255) : reqP (p21 m) = none := okQ_none (upto (p := fun m => okQ (reqP (p21 m))) (by kernel_rfl) hm)
theorem h21 (a b m : Nat) : outR (dSs (orcN pg.fs 80) restR [some (p21 m), some (w21 a b), none, none, none, none] []) = some (v21 a b m) := by kernel_rfl
theorem r21 (a b m : Nat) (hm : m < 255) : ∀ n M, ∃ v X, (orcN pg.fs (n + 81)).cl 48 [p21 m, w21 a b] M = .ok (.tup [v, v21 a b m]) (M ++ X) :=
  run_at (by kernel_rfl) (q21 hm) (by kernel_rfl) (by kernel_rfl) (by kernel_rfl) (h21 a b m)
def p22  : Va := (.tup [(.tup [(.tup [(.str [102]), (.tup [(.str [119, 104, 105, 108, 101]), (.tup [(.str [114, 117, 110]), (.str [97])]), (.tup [(.str [115, 101, 113]), (.tup [(.tup [(.str [114, 117, 110]), (.str [98])]), (.tup [(.str [114, 101, 116, 117, 114, 110]), (.int 0)])])])])])]), (.tup [(.str [105, 102]), (.tup [(.str [99, 97, 108, 108]), (.str [102])]), (.tup [(.str [114, 117, 110]), (.str [119, 101, 108, 108])]), (.tup [(.str [114, 117, 110]), (.str [98, 97, 100])])])])
def w22 (a b : Nat) : Va := (.tup [(.int 0), (one a)])
def v22 (a b m : Nat) : Va := (.tup [(.str [97, 115, 107, 115]), (.str [119, 101, 108, 108])])
theorem q22 : reqP p22 = none := by kernel_rfl
theorem h22 (a b m : Nat) : outR (dSs (orcN pg.fs 80) restR [some (p22), some (w22 a b), none, none, none, none] []) = some (v22 a b m) := by kernel_rfl
theorem r22 (a b m : Nat) : ∀ n M, ∃ v X, (orcN pg.fs (n + 81)).cl 48 [p22, w22 a b] M = .ok (.tup [v, v22 a b m]) (M ++ X) :=
  run_at (by kernel_rfl) (q22) (by kernel_rfl) (by kernel_rfl) (by kernel_rfl) (h22 a b m)
def p23  : Va := (.tup [(.tup [(.tup [(.str [102]), (.tup [(.str [105, 102]), (.tup [(.str [114, 101, 116, 117, 114, 110]), (.int 0)]), (.tup [(.str [114, 117, 110]), (.str [97])]), (.tup [(.str [114, 117, 110]), (.str [98])])])])]), (.tup [(.str [105, 102]), (.tup [(.str [99, 97, 108, 108]), (.str [102])]), (.tup [(.str [114, 117, 110]), (.str [119, 101, 108, 108])]), (.tup [(.str [114, 117, 110]), (.str [98, 97, 100])])])])
def w23 (a b : Nat) : Va := (.tup [])
def v23 (a b m : Nat) : Va := (.tup [(.str [97, 115, 107, 115]), (.str [119, 101, 108, 108])])
theorem q23 : reqP p23 = none := by kernel_rfl
theorem h23 (a b m : Nat) : outR (dSs (orcN pg.fs 80) restR [some (p23), some (w23 a b), none, none, none, none] []) = some (v23 a b m) := by kernel_rfl
theorem r23 (a b m : Nat) : ∀ n M, ∃ v X, (orcN pg.fs (n + 81)).cl 48 [p23, w23 a b] M = .ok (.tup [v, v23 a b m]) (M ++ X) :=
  run_at (by kernel_rfl) (q23) (by kernel_rfl) (by kernel_rfl) (by kernel_rfl) (h23 a b m)
def p24  : Va := (.tup [(.tup [(.tup [(.str [102]), (.tup [(.str [119, 104, 105, 108, 101]), (.tup [(.str [115, 101, 113]), (.tup [(.tup [(.str [114, 117, 110]), (.str [97])]), (.tup [(.str [114, 101, 116, 117, 114, 110]), .non])])]), (.tup [(.str [114, 117, 110]), (.str [98])])])])]), (.tup [(.str [105, 102]), (.tup [(.str [99, 97, 108, 108]), (.str [102])]), (.tup [(.str [114, 117, 110]), (.str [119, 101, 108, 108])]), (.tup [(.str [114, 117, 110]), (.str [98, 97, 100])])])])
def w24 (a b : Nat) : Va := (.tup [(one a)])
def v24 (a b m : Nat) : Va := (.tup [(.str [97, 115, 107, 115]), (.str [98, 97, 100])])
theorem q24 : reqP p24 = none := by kernel_rfl
theorem h24 (a b m : Nat) : outR (dSs (orcN pg.fs 80) restR [some (p24), some (w24 a b), none, none, none, none] []) = some (v24 a b m) := by kernel_rfl
theorem r24 (a b m : Nat) : ∀ n M, ∃ v X, (orcN pg.fs (n + 81)).cl 48 [p24, w24 a b] M = .ok (.tup [v, v24 a b m]) (M ++ X) :=
  run_at (by kernel_rfl) (q24) (by kernel_rfl) (by kernel_rfl) (by kernel_rfl) (h24 a b m)
def p25 (m : Nat) : Va := (.tup [(.tup [(.tup [(.str [102]), (.tup [(.str [115, 101, 113]), (.tup [(.tup [(.str [110, 111, 116]), (.tup [(.str [114, 101, 116, 117, 114, 110]), (nn m)])]), (.tup [(.str [114, 117, 110]), (.str [97])])])])])]), (.tup [(.str [105, 102]), (.tup [(.str [110, 111, 116]), (.tup [(.str [99, 97, 108, 108]), (.str [102])])]), (.tup [(.str [114, 117, 110]), (.str [119, 101, 108, 108])]), (.tup [(.str [114, 117, 110]), (.str [98, 97, 100])])])])
def w25 (a b : Nat) : Va := (.tup [])
def v25 (a b m : Nat) : Va := (.tup [(.str [97, 115, 107, 115]), (.str [119, 101, 108, 108])])
theorem q25 {m : Nat} (hm : m < 255) : reqP (p25 m) = none := okQ_none (upto (p := fun m => okQ (reqP (p25 m))) (by kernel_rfl) hm)
theorem h25 (a b m : Nat) : outR (dSs (orcN pg.fs 80) restR [some (p25 m), some (w25 a b), none, none, none, none] []) = some (v25 a b m) := by kernel_rfl
theorem r25 (a b m : Nat) (hm : m < 255) : ∀ n M, ∃ v X, (orcN pg.fs (n + 81)).cl 48 [p25 m, w25 a b] M = .ok (.tup [v, v25 a b m]) (M ++ X) :=
  run_at (by kernel_rfl) (q25 hm) (by kernel_rfl) (by kernel_rfl) (by kernel_rfl) (h25 a b m)
def p26  : Va := (.tup [(.tup [(.tup [(.str [102]), (.tup [(.str [97, 110, 100]), (.tup [(.str [114, 117, 110]), (.str [97])]), (.tup [(.str [114, 117, 110]), (.str [98])])])])]), (.tup [(.str [105, 102]), (.tup [(.str [115, 101, 113]), (.tup [(.tup [(.str [111, 112, 116, 105, 111, 110]), (.str [102, 97, 105, 108]), (.bl true)]), (.tup [(.str [99, 97, 108, 108]), (.str [102])])])]), (.tup [(.str [114, 117, 110]), (.str [119, 101, 108, 108])]), (.tup [(.str [114, 117, 110]), (.str [98, 97, 100])])])])
def w26 (a b : Nat) : Va := (.tup [(one a)])
def v26 (a b m : Nat) : Va := (.tup [(.str [97, 115, 107, 115]), (.str [98, 97, 100])])
theorem q26 : reqP p26 = none := by kernel_rfl
theorem h26 (a b m : Nat) : outR (dSs (orcN pg.fs 80) restR [some (p26), some (w26 a b), none, none, none, none] []) = some (v26 a b m) := by kernel_rfl
theorem r26 (a b m : Nat) : ∀ n M, ∃ v X, (orcN pg.fs (n + 81)).cl 48 [p26, w26 a b] M = .ok (.tup [v, v26 a b m]) (M ++ X) :=
  run_at (by kernel_rfl) (q26) (by kernel_rfl) (by kernel_rfl) (by kernel_rfl) (h26 a b m)
def p27  : Va := (.tup [(.tup [(.tup [(.str [102]), (.tup [(.str [116, 105, 109, 101, 115]), (.int 5), (.tup [(.str [111, 114]), (.tup [(.str [114, 117, 110]), (.str [97])]), (.tup [(.str [114, 101, 116, 117, 114, 110]), (.int 0)])])])])]), (.tup [(.str [105, 102]), (.tup [(.str [99, 97, 108, 108]), (.str [102])]), (.tup [(.str [114, 117, 110]), (.str [119, 101, 108, 108])]), (.tup [(.str [114, 117, 110]), (.str [98, 97, 100])])])])
def w27 (a b : Nat) : Va := (.tup [(.int 0), (.int 0), (oth b)])
def v27 (a b m : Nat) : Va := (.tup [(.str [97, 115, 107, 115]), (.str [119, 101, 108, 108])])
theorem q27 : reqP p27 = none := by kernel_rfl
theorem h27 (a b m : Nat) : outR (dSs (orcN pg.fs 80) restR [some (p27), some (w27 a b), none, none, none, none] []) = some (v27 a b m) := by kernel_rfl
theorem r27 (a b m : Nat) : ∀ n M, ∃ v X, (orcN pg.fs (n + 81)).cl 48 [p27, w27 a b] M = .ok (.tup [v, v27 a b m]) (M ++ X) :=
  run_at (by kernel_rfl) (q27) (by kernel_rfl) (by kernel_rfl) (by kernel_rfl) (h27 a b m)
def p28  : Va := (.tup [(.tup [(.tup [(.str [102]), (.tup [(.str [101, 120, 105, 116]), .non])])]), (.tup [(.str [115, 101, 113]), (.tup [(.tup [(.str [114, 117, 110]), (.str [97])]), (.tup [(.str [105, 102]), (.tup [(.str [99, 97, 108, 108]), (.str [102])]), (.tup [(.str [114, 117, 110]), (.str [98])]), (.tup [(.str [114, 117, 110]), (.str [99])])])])])])
def w28 (a b : Nat) : Va := (.lst [(one a), (.int 0), (.int 0)])
def v28 (a b m : Nat) : Va := (.tup [(.str [101, 110, 100, 101, 100]), (one a), (.int 1)])
theorem q28 : reqP p28 = none := by kernel_rfl
theorem h28 (a b m : Nat) : outR (dSs (orcN pg.fs 80) restR [some (p28), some (w28 a b), none, none, none, none] []) = some (v28 a b m) := by kernel_rfl
theorem r28 (a b m : Nat) : ∀ n M, ∃ v X, (orcN pg.fs (n + 81)).cl 48 [p28, w28 a b] M = .ok (.tup [v, v28 a b m]) (M ++ X) :=
  run_at (by kernel_rfl) (q28) (by kernel_rfl) (by kernel_rfl) (by kernel_rfl) (h28 a b m)
def p29  : Va := (.tup [(.tup [(.tup [(.str [102]), (.tup [(.str [97, 110, 100]), (.tup [(.str [114, 117, 110]), (.str [97])]), (.tup [(.str [114, 117, 110]), (.str [98])])])])]), (.tup [(.str [115, 101, 113]), (.tup [(.tup [(.str [111, 112, 116, 105, 111, 110]), (.str [102, 97, 105, 108]), (.bl true)]), (.tup [(.str [99, 97, 108, 108]), (.str [102])]), (.tup [(.str [114, 117, 110]), (.str [99])])])])])
def w29 (a b : Nat) : Va := (.lst [(one a), (.int 0), (.int 0)])
def v29 (a b m : Nat) : Va := (.tup [(.str [101, 110, 100, 101, 100]), (one a), (.int 1)])
theorem q29 : reqP p29 = none := by kernel_rfl
theorem h29 (a b m : Nat) : outR (dSs (orcN pg.fs 80) restR [some (p29), some (w29 a b), none, none, none, none] []) = some (v29 a b m) := by kernel_rfl
theorem r29 (a b m : Nat) : ∀ n M, ∃ v X, (orcN pg.fs (n + 81)).cl 48 [p29, w29 a b] M = .ok (.tup [v, v29 a b m]) (M ++ X) :=
  run_at (by kernel_rfl) (q29) (by kernel_rfl) (by kernel_rfl) (by kernel_rfl) (h29 a b m)
def p30  : Va := (.tup [(.tup [(.tup [(.str [102]), (.tup [(.str [97, 110, 100]), (.tup [(.str [114, 117, 110]), (.str [97])]), (.tup [(.str [114, 117, 110]), (.str [98])])])])]), (.tup [(.str [115, 101, 113]), (.tup [(.tup [(.str [111, 112, 116, 105, 111, 110]), (.str [102, 97, 105, 108]), (.bl true)]), (.tup [(.str [97, 110, 100]), (.tup [(.str [99, 97, 108, 108]), (.str [102])]), (.tup [(.str [114, 117, 110]), (.str [98])])]), (.tup [(.str [114, 117, 110]), (.str [99])])])])])
def w30 (a b : Nat) : Va := (.lst [(.int 0), (.int 0), (.int 0), (oth b), (.int 0), (.int 0)])
def v30 (a b m : Nat) : Va := (.tup [(.str [101, 110, 100, 101, 100]), (oth b), (.int 4)])
theorem q30 : reqP p30 = none := by kernel_rfl
theorem h30 (a b m : Nat) : outR (dSs (orcN pg.fs 80) restR [some (p30), some (w30 a b), none, none, none, none] []) = some (v30 a b m) := by kernel_rfl
theorem r30 (a b m : Nat) : ∀ n M, ∃ v X, (orcN pg.fs (n + 81)).cl 48 [p30, w30 a b] M = .ok (.tup [v, v30 a b m]) (M ++ X) :=
  run_at (by kernel_rfl) (q30) (by kernel_rfl) (by kernel_rfl) (by kernel_rfl) (h30 a b m)
def p31 (m : Nat) : Va := (.tup [(.tup [(.tup [(.str [102]), (.tup [(.str [116, 105, 109, 101, 115]), (.int 2), (.tup [(.str [101, 120, 105, 116]), (nn m)])])]), (.tup [(.str [103]), (.tup [(.str [119, 104, 105, 108, 101]), (.tup [(.str [114, 117, 110]), (.str [97])]), (.tup [(.str [99, 97, 108, 108]), (.str [102])])])])]), (.tup [(.str [115, 101, 113]), (.tup [(.tup [(.str [99, 97, 108, 108]), (.str [103])]), (.tup [(.str [114, 117, 110]), (.str [98])])])])])
def w31 (a b : Nat) : Va := (.lst [(.int 0), (.int 0), (.int 0)])
def v31 (a b m : Nat) : Va := (.tup [(.str [101, 110, 100, 101, 100]), (nn m), (.int 1)])
theorem q31 {m : Nat} (hm : m < 255) : reqP (p31 m) = none := okQ_none (upto (p := fun m => okQ (reqP (p31 m))) (by kernel_rfl) hm)
theorem h31 (a b m : Nat) : outR (dSs (orcN pg.fs 80) restR [some (p31 m), some (w31 a b), none, none, none, none] []) = some (v31 a b m) := by kernel_rfl
theorem r31 (a b m : Nat) (hm : m < 255) : ∀ n M, ∃ v X, (orcN pg.fs (n + 81)).cl 48 [p31 m, w31 a b] M = .ok (.tup [v, v31 a b m]) (M ++ X) :=
  run_at (by kernel_rfl) (q31 hm) (by kernel_rfl) (by kernel_rfl) (by kernel_rfl) (h31 a b m)
def p32 (m : Nat) : Va := (.tup [(.tup [(.tup [(.str [102]), (.tup [(.str [116, 105, 109, 101, 115]), (.int 2), (.tup [(.str [101, 120, 105, 116]), (nn m)])])]), (.tup [(.str [103]), (.tup [(.str [119, 104, 105, 108, 101]), (.tup [(.str [114, 117, 110]), (.str [97])]), (.tup [(.str [99, 97, 108, 108]), (.str [102])])])])]), (.tup [(.str [110, 111, 116]), (.tup [(.str [99, 97, 108, 108]), (.str [103])])])])
def w32 (a b : Nat) : Va := (.lst [(one a), (.int 0), (.int 0)])
def v32 (a b m : Nat) : Va := (.tup [(.str [101, 110, 100, 101, 100]), (.int 1), (.int 1)])
theorem q32 {m : Nat} (hm : m < 255) : reqP (p32 m) = none := okQ_none (upto (p := fun m => okQ (reqP (p32 m))) (by kernel_rfl) hm)
theorem h32 (a b m : Nat) : outR (dSs (orcN pg.fs 80) restR [some (p32 m), some (w32 a b), none, none, none, none] []) = some (v32 a b m) := by kernel_rfl
theorem r32 (a b m : Nat) (hm : m < 255) : ∀ n M, ∃ v X, (orcN pg.fs (n + 81)).cl 48 [p32 m, w32 a b] M = .ok (.tup [v, v32 a b m]) (M ++ X) :=
  run_at (by kernel_rfl) (q32 hm) (by kernel_rfl) (by kernel_rfl) (by kernel_rfl) (h32 a b m)
def p33  : Va := (.tup [(.tup []), (.tup [(.str [115, 101, 113]), (.tup [(.tup [(.str [111, 112, 116, 105, 111, 110]), (.str [102, 97, 105, 108]), (.bl true)]), (.tup [(.str [119, 104, 105, 108, 101]), (.tup [(.str [114, 117, 110]), (.str [97])]), (.tup [(.str [110, 111, 116]), (.tup [(.str [114, 117, 110]), (.str [98])])])]), (.tup [(.str [117, 110, 116, 105, 108]), (.tup [(.str [114, 117, 110]), (.str [99])]), (.tup [(.str [115, 116, 97, 116, 117, 115]), (.int 0)])])])])])
def w33 (a b : Nat) : Va := (.lst [(.int 0), (.int 0), (.int 0), (one a), (one a), (.int 0), (.int 0), (.int 0)])
def v33 (a b m : Nat) : Va := (.tup [(.str [101, 110, 100, 101, 100]), (.int 0), (.int 6)])
theorem q33 : reqP p33 = none := by kernel_rfl
theorem h33 (a b m : Nat) : outR (dSs (orcN pg.fs 80) restR [some (p33), some (w33 a b), none, none, none, none] []) = some (v33 a b m) := by kernel_rfl
theorem r33 (a b m : Nat) : ∀ n M, ∃ v X, (orcN pg.fs (n + 81)).cl 48 [p33, w33 a b] M = .ok (.tup [v, v33 a b m]) (M ++ X) :=
  run_at (by kernel_rfl) (q33) (by kernel_rfl) (by kernel_rfl) (by kernel_rfl) (h33 a b m)
def p34  : Va := (.tup [(.tup []), (.tup [(.str [115, 101, 113]), (.tup [(.tup [(.str [111, 112, 116, 105, 111, 110]), (.str [102, 97, 105, 108]), (.bl true)]), (.tup [(.str [117, 110, 116, 105, 108]), (.tup [(.str [114, 117, 110]), (.str [97])]), (.tup [(.str [119, 104, 105, 108, 101]), (.tup [(.str [114, 117, 110]), (.str [98])]), (.tup [(.str [114, 117, 110]), (.str [99])])])])])])])
def w34 (a b : Nat) : Va := (.lst [(one a), (.int 0), (oth b), (.int 0), (.int 0)])
def v34 (a b m : Nat) : Va := (.tup [(.str [101, 110, 100, 101, 100]), (oth b), (.int 3)])
theorem q34 : reqP p34 = none := by kernel_rfl
theorem h34 (a b m : Nat) : outR (dSs (orcN pg.fs 80) restR [some (p34), some (w34 a b), none, none, none, none] []) = some (v34 a b m) := by kernel_rfl
theorem r34 (a b m : Nat) : ∀ n M, ∃ v X, (orcN pg.fs (n + 81)).cl 48 [p34, w34 a b] M = .ok (.tup [v, v34 a b m]) (M ++ X) :=
  run_at (by kernel_rfl) (q34) (by kernel_rfl) (by kernel_rfl) (by kernel_rfl) (h34 a b m)
def p35 (m : Nat) : Va := (.tup [(.tup []), (.tup [(.str [119, 104, 105, 108, 101]), (.tup [(.str [114, 117, 110]), (.str [97])]), (.tup [(.str [111, 114]), (.tup [(.str [114, 117, 110]), (.str [98])]), (.tup [(.str [101, 120, 105, 116]), (nn m)])])])])
def w35 (a b : Nat) : Va := (.lst [(.int 0), (.int 0), (.int 0), (one a), (.int 0), (.int 0)])
def v35 (a b m : Nat) : Va := (.tup [(.str [101, 110, 100, 101, 100]), (nn m), (.int 4)])
theorem q35 {m : Nat} (hm : m < 255) : reqP (p35 m) = none := okQ_none (upto (p := fun m => okQ (reqP (p35 m))) (by kernel_rfl) hm)
theorem h35 (a b m : Nat) : outR (dSs (orcN pg.fs 80) restR [some (p35 m), some (w35 a b), none, none, none, none] []) = some (v35 a b m) := by kernel_rfl
theorem r35 (a b m : Nat) (hm : m < 255) : ∀ n M, ∃ v X, (orcN pg.fs (n + 81)).cl 48 [p35 m, w35 a b] M = .ok (.tup [v, v35 a b m]) (M ++ X) :=
  run_at (by kernel_rfl) (q35 hm) (by kernel_rfl) (by kernel_rfl) (by kernel_rfl) (h35 a b m)
end K19

namespace K19
open PySem Dn Pr
/-! the lists of cases -/
def outL : Res Va → Option (List Va)
  | .ok (.ref k) M => match M[k]? with
    | some (.lst xs) => some xs
    | _ => none
  | _ => none
theorem list_at {f : Nat} {vs L : List Va} (h : outL ((orcN pg.fs 5).cl f vs []) = some L) (hv : vpures vs = true) (hL : vpures L = true) (n : Nat) (M : Mem) :
    ∃ r X, (orcN pg.fs (n + 5)).cl f vs M = .ok (.ref r) (M ++ X) ∧ (M ++ X)[r]? = some (.lst L) := by
  have q := (orcN_sh (P := M) pg.fs 5 n).cl f vs []
  rw [shs_pure _ _ hv, show shM M [] = M by simp [shM], Nat.add_comm 5 n] at q
  revert h q
  generalize (orcN pg.fs 5).cl f vs [] = R
  intro h q
  unfold outL at h
  split at h
  · rename_i k M1
    split at h
    · rename_i xs hx
      cases h
      have q : _ = _ := q
      refine ⟨k + M.length, M1.map (shO M.length), q, ?_⟩
      have := sh_get (P := M) M1 k
      rw [hx] at this
      unfold shM at this
      rw [this]
      simp [shO, shs_pure _ _ hL]
    · cases h
  · cases h
/-- a walk over a list in memory -/
theorem for_live {o : Orc} {tg : Tg} {b : Ss} {L : List Va} {r : Nat} (E : Dn.Env → Prop)
    (hb : ∀ v ∈ L, ∀ env M, E env → ∃ env' env2 X, tgSet tg v env = some env' ∧ dSs o b env' M = .nx env2 (M ++ X) ∧ E env2) :
    ∀ (d i k : Nat) (env : Dn.Env) (M : Mem), i + d = L.length → d < k → E env → M[r]? = some (.lst L) → ∃ env2 X, forL (.live r) (tgSet tg) (fun env M => dSs o b env M) k i env M = .nx env2 (M ++ X) ∧ E env2
  | d, i, 0, env, M, hd, hk, h, hr => by omega
  | 0, i, k + 1, env, M, hd, hk, h, hr => by
    refine ⟨env, [], ?_, h⟩
    rw [List.append_nil]
    refine forL_stop ?_
    simp only [Itv.at, hr]
    rw [List.getElem?_eq_none (by omega)]
  | d + 1, i, k + 1, env, M, hd, hk, h, hr => by
    have hi : i < L.length := by omega
    obtain ⟨env', env2, X, h1, h2, h3⟩ := hb L[i] (List.getElem_mem hi) env M h
    have hl := (List.getElem?_eq_some_iff.mp hr).1
    obtain ⟨env3, Y, e3, h4⟩ := for_live E hb d (i + 1) k env2 (M ++ X) (by omega) (by omega) h3 (by rw [List.getElem?_append_left hl]; exact hr)
    refine ⟨env3, X ++ Y, ?_, h4⟩
    rw [forL_next (v := L[i]) (by simp only [Itv.at, hr]; rw [List.getElem?_eq_getElem hi]) h1 h2, e3, List.append_assoc]
theorem for_live0 {o : Orc} {tg : Tg} {b : Ss} {L : List Va} {r : Nat} (E : Dn.Env → Prop)
    (hb : ∀ v ∈ L, ∀ env M, E env → ∃ env' env2 X, tgSet tg v env = some env' ∧ dSs o b env' M = .nx env2 (M ++ X) ∧ E env2) (hL : L.length < 1000000)
    {env : Dn.Env} {M : Mem} (h : E env) (hr : M[r]? = some (.lst L)) : ∃ env2 X, forL (.live r) (tgSet tg) (fun env M => dSs o b env M) fuelW 0 env M = .nx env2 (M ++ X) ∧ E env2 :=
  for_live E hb L.length 0 fuelW env M (by omega) (by unfold fuelW; omega) h hr
/-! the bodies of the three walks -/
def RunIs (p g w : Va) : Prop := ∀ n M, ∃ v X, (orcN pg.fs (n + 81)).cl 48 [p, g] M = .ok (.tup [v, w]) (M ++ X)
def shownV (t : Va) : Va := .tup [.str [105, 102], t, .tup [.str [114, 117, 110], .str [119, 101, 108, 108]], .tup [.str [114, 117, 110], .str [98, 97, 100]]]
def wellV (b : Bool) : Va := .tup [.str [97, 115, 107, 115], .str (bif b then [119, 101, 108, 108] else [98, 97, 100])]
abbrev envQ (s c sr o t k : Option Va) (x6 x7 x8 x9 x10 x11 : Option Va) : Dn.Env := [s, c, sr, o, t, k, x6, x7, x8, x9, x10, x11]
theorem shown_ok (n : Nat) (t : Va) (M : Mem) : (orcN pg.fs (n + 1)).cl 53 [t] M = .ok (shownV t) M := by
  rw [c__law_shown]
  simp [b__law_shown, s1__law_shown, dSs, dS, dE, dEs, dB_one, dB_and, dB_or, ite_and, ite_or, dC, dI, dO, Res.bind, Res.toS, Res.ofO, Rs.toR, Rs.ofO, opC, eqL, asB, eqC_int, flat, sz0, sz1, sz2, sz3, sz4, sz5, sz6, sz7, shownV]
theorem well_eq (M : Mem) (b : Bool) : eqC M (wellV b) (wellV b) = some true := eqC_self (by cases b <;> decide +kernel)
theorem body1 {n : Nat} {t g : Va} {w : Bool} (hr : RunIs (.tup [.tup [], shownV t]) g (wellV w)) (s c sr o u k x9 x10 x11 : Option Va) (M : Mem) :
    ∃ X, dSs (orcN pg.fs (n + 81)) b3_law (envQ s c sr o u k (some t) (some g) (some (.bl w)) x9 x10 x11) M = .nx (envQ s c sr o u k (some t) (some g) (some (.bl w)) x9 x10 x11) (M ++ X) := by
  obtain ⟨v, X, e⟩ := hr n M
  refine ⟨X, ?_⟩
  have es : (orcN pg.fs (n + 81)).cl 53 [t] M = .ok (shownV t) M := shown_ok (n + 80) t M
  have q := well_eq (M ++ X) w
  cases w <;> simp only [wellV, cond_true, cond_false] at e q <;> simp [b3_law, s2_law, s1_law, dSs, dS, dE, dEs, dB_one, dB_and, dB_or, ite_and, ite_or, dC, dI, dO, Res.bind, Res.toS, Res.ofO, Rs.toR, Rs.ofO, opC, eqL, asB, eqC_int, flat, sz0, sz1, sz2, sz3, sz4, sz5, sz6, sz7, es, e, opIx, newL, itemsS, opF, atI0, atI1, q]
theorem body2 {n : Nat} {f t : Va} {gs : List Va} {w : Bool} (hg : gs.length < 100) (hr : RunIs (.tup [.tup [.tup [.str [102], f]], shownV t]) (.tup gs) (wellV w)) (s c sr o u k x10 x11 : Option Va) (M : Mem) :
    ∃ X, dSs (orcN pg.fs (n + 81)) b7_law (envQ s c sr o u k (some t) (some (.lst gs)) (some (.bl w)) (some f) x10 x11) M = .nx (envQ s c sr o u k (some t) (some (.lst gs)) (some (.bl w)) (some f) x10 x11) (M ++ X) := by
  obtain ⟨v, X, e⟩ := hr n M
  refine ⟨X, ?_⟩
  have es : (orcN pg.fs (n + 81)).cl 53 [t] M = .ok (shownV t) M := shown_ok (n + 80) t M
  have q := well_eq (M ++ X) w
  have hg' : gs.length ≤ sizeLine := by rw [sizeLine_eq']; omega
  cases w <;> simp only [wellV, cond_true, cond_false] at e q <;> simp [b7_law, s6_law, s5_law, dSs, dS, dE, dEs, dB_one, dB_and, dB_or, ite_and, ite_or, dC, dI, dO, Res.bind, Res.toS, Res.ofO, Rs.toR, Rs.ofO, opC, eqL, asB, eqC_int, flat, sz0, sz1, sz2, sz3, sz4, sz5, sz6, sz7, es, e, opIx, newL, itemsS, itemsL, opF, atI0, atI1, q, hg']
theorem body3 {n : Nat} {p st : Va} {gs : List Va} (hg : gs.length < 100) (ho : okD (.tup [.str [101, 110, 100, 101, 100], st, .int (gs.length : Nat)]) = true) (hr : RunIs p (.lst (gs ++ [.int 0, .int 0])) (.tup [.str [101, 110, 100, 101, 100], st, .int (gs.length : Nat)])) (s c sr o u k x6 x8 x9 : Option Va) (M : Mem) :
    ∃ X, dSs (orcN pg.fs (n + 81)) b11_law (envQ s c sr o u k x6 (some (.lst gs)) x8 x9 (some p) (some st)) M = .nx (envQ s c sr o u k x6 (some (.lst gs)) x8 x9 (some p) (some st)) (M ++ X) := by
  obtain ⟨v, X, e⟩ := hr n M
  refine ⟨X, ?_⟩
  have q := eqC_self (M := M ++ X) ho
  have hg' : gs.length ≤ sizeLine := by rw [sizeLine_eq']; omega
  have hg2 : gs.length + 2 ≤ sizeLine := by rw [sizeLine_eq']; omega
  have ha : opB false .Add (.lst gs) (.lst [.int 0, .int 0]) M = .ok (.lst (gs ++ [.int 0, .int 0])) M := by
    simp [opB, itemsL, newL, hg2]
  simp [b11_law, s10_law, s9_law, dSs, dS, dE, dEs, dB_one, dB_and, dB_or, ite_and, ite_or, dC, dI, dO, Res.bind, Res.toS, Res.ofO, Rs.toR, Rs.ofO, opC, eqL, asB, eqC_int, flat, sz0, sz1, sz2, sz3, sz4, sz5, sz6, sz7, e, opIx, newL, itemsS, itemsL, opF, atI0, atI1, ha, q, hg']
end K19
namespace K19
open PySem Dn Pr
def P1 (v : Va) : Prop := ∃ t g w, v = .tup [t, g, .bl w] ∧ RunIs (.tup [.tup [], shownV t]) g (wellV w)
def P2 (v : Va) : Prop := ∃ f t gs w, v = .tup [f, t, .lst gs, .bl w] ∧ gs.length < 100 ∧ RunIs (.tup [.tup [.tup [.str [102], f]], shownV t]) (.tup gs) (wellV w)
def P3 (v : Va) : Prop := ∃ p gs st, v = .tup [p, .lst gs, st] ∧ gs.length < 100 ∧ okD (.tup [.str [101, 110, 100, 101, 100], st, .int (gs.length : Nat)]) = true ∧ RunIs p (.lst (gs ++ [.int 0, .int 0])) (.tup [.str [101, 110, 100, 101, 100], st, .int (gs.length : Nat)])
theorem all_nil {p : Va → Prop} : ∀ v ∈ ([] : List Va), p v := fun _ h => by cases h
theorem all_cons {p : Va → Prop} {x : Va} {xs : List Va} (h : p x) (t : ∀ v ∈ xs, p v) : ∀ v ∈ x :: xs, p v := fun v hv => by
  rcases List.mem_cons.mp hv with e | hv
  · rw [e]; exact h
  · exact t v hv
def L1 (a b m : Nat) : List Va := [(.tup [(.tup [(.str [119, 104, 105, 108, 101]), (.tup [(.str [114, 117, 110]), (.str [97])]), (.tup [(.str [98, 114, 101, 97, 107]), (.int 1)])]), (.lst [(.int 0)]), (.bl true)]),
  (.tup [(.tup [(.str [117, 110, 116, 105, 108]), (.tup [(.str [114, 117, 110]), (.str [97])]), (.tup [(.str [115, 116, 97, 116, 117, 115]), (nn m)])]), (.lst [(one a), (.int 0)]), (.bl false)]),
  (.tup [(.tup [(.str [119, 104, 105, 108, 101]), (.tup [(.str [114, 117, 110]), (.str [97])]), (.tup [(.str [114, 117, 110]), (.str [98])])]), (.lst [(.int 0), (one a), (oth b)]), (.bl false)]),
  (.tup [(.tup [(.str [119, 104, 105, 108, 101]), (.tup [(.str [114, 117, 110]), (.str [97])]), (.tup [(.str [114, 117, 110]), (.str [98])])]), (.lst [(.int 0), (one a), (.int 0), (.int 0), (oth b)]), (.bl true)]),
  (.tup [(.tup [(.str [119, 104, 105, 108, 101]), (.tup [(.str [114, 117, 110]), (.str [97])]), (.tup [(.str [114, 117, 110]), (.str [98])])]), (.lst [(one a)]), (.bl true)]),
  (.tup [(.tup [(.str [116, 105, 109, 101, 115]), (.int 0), (.tup [(.str [114, 117, 110]), (.str [97])])]), (.lst []), (.bl true)]),
  (.tup [(.tup [(.str [116, 105, 109, 101, 115]), (.int 3), (.tup [(.str [105, 102]), (.tup [(.str [114, 117, 110]), (.str [97])]), (.tup [(.str [110, 101, 120, 116]), (.int 1)]), (.tup [(.str [115, 116, 97, 116, 117, 115]), (nn m)])])]), (.lst [(.int 0), (one a), (.int 0)]), (.bl true)]),
  (.tup [(.tup [(.str [116, 105, 109, 101, 115]), (.int 3), (.tup [(.str [105, 102]), (.tup [(.str [114, 117, 110]), (.str [97])]), (.tup [(.str [110, 101, 120, 116]), (.int 1)]), (.tup [(.str [115, 116, 97, 116, 117, 115]), (nn m)])])]), (.lst [(.int 0), (.int 0), (one a)]), (.bl false)]),
  (.tup [(.tup [(.str [116, 105, 109, 101, 115]), (.int 3), (.tup [(.str [105, 102]), (.tup [(.str [114, 117, 110]), (.str [97])]), (.tup [(.str [110, 101, 120, 116]), (.int 1)]), (.tup [(.str [115, 116, 97, 116, 117, 115]), (nn m)])])]), (.lst [(one a), (one a), (.int 0)]), (.bl true)]),
  (.tup [(.tup [(.str [119, 104, 105, 108, 101]), (.tup [(.str [114, 117, 110]), (.str [97])]), (.tup [(.str [117, 110, 116, 105, 108]), (.tup [(.str [115, 101, 113]), (.tup [(.tup [(.str [114, 117, 110]), (.str [98])]), (.tup [(.str [98, 114, 101, 97, 107]), (.int 2)])])]), (.tup [(.str [114, 117, 110]), (.str [99])])])]), (.lst [(.int 0), (one a)]), (.bl true)]),
  (.tup [(.tup [(.str [119, 104, 105, 108, 101]), (.tup [(.str [115, 101, 113]), (.tup [(.tup [(.str [114, 117, 110]), (.str [97])]), (.tup [(.str [98, 114, 101, 97, 107]), (.int 1)])])]), (.tup [(.str [114, 117, 110]), (.str [98])])]), (.lst [(one a)]), (.bl true)]),
  (.tup [(.tup [(.str [117, 110, 116, 105, 108]), (.tup [(.str [111, 114]), (.tup [(.str [114, 117, 110]), (.str [97])]), (.tup [(.str [110, 101, 120, 116]), (.int 1)])]), (.tup [(.str [114, 117, 110]), (.str [98])])]), (.lst [(one a), (oth b), (.int 0)]), (.bl true)]),
  (.tup [(.tup [(.str [117, 110, 116, 105, 108]), (.tup [(.str [115, 101, 113]), (.tup [(.tup [(.str [111, 114]), (.tup [(.str [114, 117, 110]), (.str [97])]), (.tup [(.str [110, 101, 120, 116]), (.int 1)])]), (.tup [(.str [114, 117, 110]), (.str [98])])])]), (.tup [(.str [114, 117, 110]), (.str [99])])]), (.lst [(.int 0), (one a), (oth b), (one a), (.int 0), (.int 0)]), (.bl true)]),
  (.tup [(.tup [(.str [116, 105, 109, 101, 115]), (.int 2), (.tup [(.str [116, 105, 109, 101, 115]), (.int 3), (.tup [(.str [115, 101, 113]), (.tup [(.tup [(.str [114, 117, 110]), (.str [97])]), (.tup [(.str [110, 101, 120, 116]), (.int 2)])])])])]), (.lst [(one a), (oth b)]), (.bl true)]),
  (.tup [(.tup [(.str [116, 105, 109, 101, 115]), (.int 2), (.tup [(.str [116, 105, 109, 101, 115]), (.int 3), (.tup [(.str [111, 114]), (.tup [(.str [114, 117, 110]), (.str [97])]), (.tup [(.str [98, 114, 101, 97, 107]), (.int 2)])])])]), (.lst [(.int 0), (.int 0), (one a)]), (.bl true)]),
  (.tup [(.tup [(.str [116, 105, 109, 101, 115]), (.int 2), (.tup [(.str [115, 101, 113]), (.tup [(.tup [(.str [116, 105, 109, 101, 115]), (.int 1), (.tup [(.str [111, 114]), (.tup [(.str [114, 117, 110]), (.str [97])]), (.tup [(.str [98, 114, 101, 97, 107]), (.int 1)])])]), (.tup [(.str [114, 117, 110]), (.str [98])])])])]), (.lst [(one a), (.int 0), (.int 0), (oth b)]), (.bl false)]),
  (.tup [(.tup [(.str [110, 111, 116]), (.tup [(.str [119, 104, 105, 108, 101]), (.tup [(.str [114, 117, 110]), (.str [97])]), (.tup [(.str [115, 101, 113]), (.tup [(.tup [(.str [114, 117, 110]), (.str [98])]), (.tup [(.str [98, 114, 101, 97, 107]), (.int 1)])])])])]), (.lst [(.int 0), (one a)]), (.bl false)]),
  (.tup [(.tup [(.str [115, 101, 113]), (.tup [(.tup [(.str [114, 117, 110]), (.str [97])]), (.tup [(.str [116, 105, 109, 101, 115]), (.int 1), (.tup [(.str [107, 101, 101, 112]), (.str [120])])]), (.tup [(.str [103, 105, 118, 101]), (.str [120])])])]), (.lst [(one a)]), (.bl false)])]
theorem L1_at (a b m : Nat) : outL ((orcN pg.fs 5).cl 54 [one a, oth b, nn m] []) = some (L1 a b m) := by kernel_rfl
theorem L1_pure (a b m : Nat) : vpures (L1 a b m) = true := by kernel_rfl
theorem L1_all {a b m : Nat} (hm : m < 255) : ∀ v ∈ L1 a b m, P1 v := by
  unfold L1
  refine all_cons ⟨_, _, _, rfl, (r0 a b m)⟩ ?_
  refine all_cons ⟨_, _, _, rfl, (r1 a b m hm)⟩ ?_
  refine all_cons ⟨_, _, _, rfl, (r2 a b m)⟩ ?_
  refine all_cons ⟨_, _, _, rfl, (r3 a b m)⟩ ?_
  refine all_cons ⟨_, _, _, rfl, (r4 a b m)⟩ ?_
  refine all_cons ⟨_, _, _, rfl, (r5 a b m)⟩ ?_
  refine all_cons ⟨_, _, _, rfl, (r6 a b m hm)⟩ ?_
  refine all_cons ⟨_, _, _, rfl, (r7 a b m hm)⟩ ?_
  refine all_cons ⟨_, _, _, rfl, (r8 a b m hm)⟩ ?_
  refine all_cons ⟨_, _, _, rfl, (r9 a b m)⟩ ?_
  refine all_cons ⟨_, _, _, rfl, (r10 a b m)⟩ ?_
  refine all_cons ⟨_, _, _, rfl, (r11 a b m)⟩ ?_
  refine all_cons ⟨_, _, _, rfl, (r12 a b m)⟩ ?_
  refine all_cons ⟨_, _, _, rfl, (r13 a b m)⟩ ?_
  refine all_cons ⟨_, _, _, rfl, (r14 a b m)⟩ ?_
  refine all_cons ⟨_, _, _, rfl, (r15 a b m)⟩ ?_
  refine all_cons ⟨_, _, _, rfl, (r16 a b m)⟩ ?_
  refine all_cons ⟨_, _, _, rfl, (r17 a b m)⟩ ?_
  exact all_nil
def L2 (a b m : Nat) : List Va := [(.tup [(.tup [(.str [114, 101, 116, 117, 114, 110]), .non]), (.tup [(.str [115, 101, 113]), (.tup [(.tup [(.str [114, 117, 110]), (.str [97])]), (.tup [(.str [99, 97, 108, 108]), (.str [102])])])]), (.lst [(one a)]), (.bl false)]),
  (.tup [(.tup [(.str [114, 101, 116, 117, 114, 110]), .non]), (.tup [(.str [115, 101, 113]), (.tup [(.tup [(.str [114, 117, 110]), (.str [97])]), (.tup [(.str [99, 97, 108, 108]), (.str [102])])])]), (.lst [(.int 0)]), (.bl true)]),
  (.tup [(.tup [(.str [115, 101, 113]), (.tup [(.tup [(.str [115, 116, 97, 116, 117, 115]), (.int 0)]), (.tup [(.str [114, 101, 116, 117, 114, 110]), .non])])]), (.tup [(.str [115, 101, 113]), (.tup [(.tup [(.str [114, 117, 110]), (.str [97])]), (.tup [(.str [99, 97, 108, 108]), (.str [102])])])]), (.lst [(one a)]), (.bl true)]),
  (.tup [(.tup [(.str [119, 104, 105, 108, 101]), (.tup [(.str [114, 117, 110]), (.str [97])]), (.tup [(.str [115, 101, 113]), (.tup [(.tup [(.str [114, 117, 110]), (.str [98])]), (.tup [(.str [114, 101, 116, 117, 114, 110]), (nn m)])])])]), (.tup [(.str [99, 97, 108, 108]), (.str [102])]), (.lst [(.int 0), (.int 0)]), (.bl false)]),
  (.tup [(.tup [(.str [119, 104, 105, 108, 101]), (.tup [(.str [114, 117, 110]), (.str [97])]), (.tup [(.str [115, 101, 113]), (.tup [(.tup [(.str [114, 117, 110]), (.str [98])]), (.tup [(.str [114, 101, 116, 117, 114, 110]), (.int 0)])])])]), (.tup [(.str [99, 97, 108, 108]), (.str [102])]), (.lst [(.int 0), (one a)]), (.bl true)]),
  (.tup [(.tup [(.str [105, 102]), (.tup [(.str [114, 101, 116, 117, 114, 110]), (.int 0)]), (.tup [(.str [114, 117, 110]), (.str [97])]), (.tup [(.str [114, 117, 110]), (.str [98])])]), (.tup [(.str [99, 97, 108, 108]), (.str [102])]), (.lst []), (.bl true)]),
  (.tup [(.tup [(.str [119, 104, 105, 108, 101]), (.tup [(.str [115, 101, 113]), (.tup [(.tup [(.str [114, 117, 110]), (.str [97])]), (.tup [(.str [114, 101, 116, 117, 114, 110]), .non])])]), (.tup [(.str [114, 117, 110]), (.str [98])])]), (.tup [(.str [99, 97, 108, 108]), (.str [102])]), (.lst [(one a)]), (.bl false)]),
  (.tup [(.tup [(.str [115, 101, 113]), (.tup [(.tup [(.str [110, 111, 116]), (.tup [(.str [114, 101, 116, 117, 114, 110]), (nn m)])]), (.tup [(.str [114, 117, 110]), (.str [97])])])]), (.tup [(.str [110, 111, 116]), (.tup [(.str [99, 97, 108, 108]), (.str [102])])]), (.lst []), (.bl true)]),
  (.tup [(.tup [(.str [97, 110, 100]), (.tup [(.str [114, 117, 110]), (.str [97])]), (.tup [(.str [114, 117, 110]), (.str [98])])]), (.tup [(.str [115, 101, 113]), (.tup [(.tup [(.str [111, 112, 116, 105, 111, 110]), (.str [102, 97, 105, 108]), (.bl true)]), (.tup [(.str [99, 97, 108, 108]), (.str [102])])])]), (.lst [(one a)]), (.bl false)]),
  (.tup [(.tup [(.str [116, 105, 109, 101, 115]), (.int 5), (.tup [(.str [111, 114]), (.tup [(.str [114, 117, 110]), (.str [97])]), (.tup [(.str [114, 101, 116, 117, 114, 110]), (.int 0)])])]), (.tup [(.str [99, 97, 108, 108]), (.str [102])]), (.lst [(.int 0), (.int 0), (oth b)]), (.bl true)])]
theorem L2_at (a b m : Nat) : outL ((orcN pg.fs 5).cl 55 [one a, oth b, nn m] []) = some (L2 a b m) := by kernel_rfl
theorem L2_pure (a b m : Nat) : vpures (L2 a b m) = true := by kernel_rfl
theorem L2_all {a b m : Nat} (hm : m < 255) : ∀ v ∈ L2 a b m, P2 v := by
  unfold L2
  refine all_cons ⟨_, _, _, _, rfl, by simp, (r18 a b m)⟩ ?_
  refine all_cons ⟨_, _, _, _, rfl, by simp, (r19 a b m)⟩ ?_
  refine all_cons ⟨_, _, _, _, rfl, by simp, (r20 a b m)⟩ ?_
  refine all_cons ⟨_, _, _, _, rfl, by simp, (r21 a b m hm)⟩ ?_
  refine all_cons ⟨_, _, _, _, rfl, by simp, (r22 a b m)⟩ ?_
  refine all_cons ⟨_, _, _, _, rfl, by simp, (r23 a b m)⟩ ?_
  refine all_cons ⟨_, _, _, _, rfl, by simp, (r24 a b m)⟩ ?_
  refine all_cons ⟨_, _, _, _, rfl, by simp, (r25 a b m hm)⟩ ?_
  refine all_cons ⟨_, _, _, _, rfl, by simp, (r26 a b m)⟩ ?_
  refine all_cons ⟨_, _, _, _, rfl, by simp, (r27 a b m)⟩ ?_
  exact all_nil
def L3 (a b m : Nat) : List Va := [(.tup [(.tup [(.tup [(.tup [(.str [102]), (.tup [(.str [101, 120, 105, 116]), .non])])]), (.tup [(.str [115, 101, 113]), (.tup [(.tup [(.str [114, 117, 110]), (.str [97])]), (.tup [(.str [105, 102]), (.tup [(.str [99, 97, 108, 108]), (.str [102])]), (.tup [(.str [114, 117, 110]), (.str [98])]), (.tup [(.str [114, 117, 110]), (.str [99])])])])])]), (.lst [(one a)]), (one a)]),
  (.tup [(.tup [(.tup [(.tup [(.str [102]), (.tup [(.str [97, 110, 100]), (.tup [(.str [114, 117, 110]), (.str [97])]), (.tup [(.str [114, 117, 110]), (.str [98])])])])]), (.tup [(.str [115, 101, 113]), (.tup [(.tup [(.str [111, 112, 116, 105, 111, 110]), (.str [102, 97, 105, 108]), (.bl true)]), (.tup [(.str [99, 97, 108, 108]), (.str [102])]), (.tup [(.str [114, 117, 110]), (.str [99])])])])]), (.lst [(one a)]), (one a)]),
  (.tup [(.tup [(.tup [(.tup [(.str [102]), (.tup [(.str [97, 110, 100]), (.tup [(.str [114, 117, 110]), (.str [97])]), (.tup [(.str [114, 117, 110]), (.str [98])])])])]), (.tup [(.str [115, 101, 113]), (.tup [(.tup [(.str [111, 112, 116, 105, 111, 110]), (.str [102, 97, 105, 108]), (.bl true)]), (.tup [(.str [97, 110, 100]), (.tup [(.str [99, 97, 108, 108]), (.str [102])]), (.tup [(.str [114, 117, 110]), (.str [98])])]), (.tup [(.str [114, 117, 110]), (.str [99])])])])]), (.lst [(.int 0), (.int 0), (.int 0), (oth b)]), (oth b)]),
  (.tup [(.tup [(.tup [(.tup [(.str [102]), (.tup [(.str [116, 105, 109, 101, 115]), (.int 2), (.tup [(.str [101, 120, 105, 116]), (nn m)])])]), (.tup [(.str [103]), (.tup [(.str [119, 104, 105, 108, 101]), (.tup [(.str [114, 117, 110]), (.str [97])]), (.tup [(.str [99, 97, 108, 108]), (.str [102])])])])]), (.tup [(.str [115, 101, 113]), (.tup [(.tup [(.str [99, 97, 108, 108]), (.str [103])]), (.tup [(.str [114, 117, 110]), (.str [98])])])])]), (.lst [(.int 0)]), (nn m)]),
  (.tup [(.tup [(.tup [(.tup [(.str [102]), (.tup [(.str [116, 105, 109, 101, 115]), (.int 2), (.tup [(.str [101, 120, 105, 116]), (nn m)])])]), (.tup [(.str [103]), (.tup [(.str [119, 104, 105, 108, 101]), (.tup [(.str [114, 117, 110]), (.str [97])]), (.tup [(.str [99, 97, 108, 108]), (.str [102])])])])]), (.tup [(.str [110, 111, 116]), (.tup [(.str [99, 97, 108, 108]), (.str [103])])])]), (.lst [(one a)]), (.int 1)]),
  (.tup [(.tup [(.tup []), (.tup [(.str [115, 101, 113]), (.tup [(.tup [(.str [111, 112, 116, 105, 111, 110]), (.str [102, 97, 105, 108]), (.bl true)]), (.tup [(.str [119, 104, 105, 108, 101]), (.tup [(.str [114, 117, 110]), (.str [97])]), (.tup [(.str [110, 111, 116]), (.tup [(.str [114, 117, 110]), (.str [98])])])]), (.tup [(.str [117, 110, 116, 105, 108]), (.tup [(.str [114, 117, 110]), (.str [99])]), (.tup [(.str [115, 116, 97, 116, 117, 115]), (.int 0)])])])])]), (.lst [(.int 0), (.int 0), (.int 0), (one a), (one a), (.int 0)]), (.int 0)]),
  (.tup [(.tup [(.tup []), (.tup [(.str [115, 101, 113]), (.tup [(.tup [(.str [111, 112, 116, 105, 111, 110]), (.str [102, 97, 105, 108]), (.bl true)]), (.tup [(.str [117, 110, 116, 105, 108]), (.tup [(.str [114, 117, 110]), (.str [97])]), (.tup [(.str [119, 104, 105, 108, 101]), (.tup [(.str [114, 117, 110]), (.str [98])]), (.tup [(.str [114, 117, 110]), (.str [99])])])])])])]), (.lst [(one a), (.int 0), (oth b)]), (oth b)]),
  (.tup [(.tup [(.tup []), (.tup [(.str [119, 104, 105, 108, 101]), (.tup [(.str [114, 117, 110]), (.str [97])]), (.tup [(.str [111, 114]), (.tup [(.str [114, 117, 110]), (.str [98])]), (.tup [(.str [101, 120, 105, 116]), (nn m)])])])]), (.lst [(.int 0), (.int 0), (.int 0), (one a)]), (nn m)])]
theorem L3_at (a b m : Nat) : outL ((orcN pg.fs 5).cl 56 [one a, oth b, nn m] []) = some (L3 a b m) := by kernel_rfl
theorem L3_pure (a b m : Nat) : vpures (L3 a b m) = true := by kernel_rfl
theorem L3_all {a b m : Nat} (hm : m < 255) : ∀ v ∈ L3 a b m, P3 v := by
  unfold L3
  refine all_cons ⟨_, _, _, rfl, by simp, by kernel_rfl, (r28 a b m)⟩ ?_
  refine all_cons ⟨_, _, _, rfl, by simp, by kernel_rfl, (r29 a b m)⟩ ?_
  refine all_cons ⟨_, _, _, rfl, by simp, by kernel_rfl, (r30 a b m)⟩ ?_
  refine all_cons ⟨_, _, _, rfl, by simp, by kernel_rfl, (r31 a b m hm)⟩ ?_
  refine all_cons ⟨_, _, _, rfl, by simp, by kernel_rfl, (r32 a b m hm)⟩ ?_
  refine all_cons ⟨_, _, _, rfl, by simp, by kernel_rfl, (r33 a b m)⟩ ?_
  refine all_cons ⟨_, _, _, rfl, by simp, by kernel_rfl, (r34 a b m)⟩ ?_
  refine all_cons ⟨_, _, _, rfl, by simp, by kernel_rfl, (r35 a b m hm)⟩ ?_
  exact all_nil
end K19
namespace K19
open PySem Dn Pr
theorem walk1 {n a b m : Nat} (hm : m < 255) (s c sr x6 x7 x8 x9 x10 x11 : Option Va) (M : Mem) :
    ∃ y6 y7 y8 y9 y10 y11 X, dS (orcN pg.fs (n + 81)) l4_law (envQ s c sr (some (one a)) (some (oth b)) (some (nn m)) x6 x7 x8 x9 x10 x11) M = .nx (envQ s c sr (some (one a)) (some (oth b)) (some (nn m)) y6 y7 y8 y9 y10 y11) (M ++ X) := by
  obtain ⟨r, X, e, hr⟩ := list_at (L1_at a b m) rfl (L1_pure a b m) (n + 76) M
  have e' : (orcN pg.fs (n + 81)).cl 54 [one a, oth b, nn m] M = .ok (.ref r) (M ++ X) := e
  obtain ⟨env2, Y, q, y6, y7, y8, y9, y10, y11, h⟩ := for_live0 (o := orcN pg.fs (n + 81)) (tg := tgOf l4_law) (b := b3_law) (L := L1 a b m) (r := r)
    (fun env => ∃ y6 y7 y8 y9 y10 y11, env = envQ s c sr (some (one a)) (some (oth b)) (some (nn m)) y6 y7 y8 y9 y10 y11)
    (fun v hv env M hE => by
      obtain ⟨y6, y7, y8, y9, y10, y11, rfl⟩ := hE
      obtain ⟨t, g, w, rfl, hR⟩ := L1_all hm v hv
      obtain ⟨X, hX⟩ := body1 (n := n) hR s c sr (some (one a)) (some (oth b)) (some (nn m)) y9 y10 y11 M
      exact ⟨_, _, X, rfl, hX, _, _, _, _, _, _, rfl⟩) (by simp [L1]) (env := envQ s c sr (some (one a)) (some (oth b)) (some (nn m)) x6 x7 x8 x9 x10 x11) (M := M ++ X) ⟨_, _, _, _, _, _, rfl⟩ hr
  subst h
  refine ⟨y6, y7, y8, y9, y10, y11, X ++ Y, ?_⟩
  rw [← List.append_assoc, ← q]
  simp only [l4_law, dSs, dS, dE, dEs, dB_one, dB_and, dB_or, ite_and, ite_or, dC, dI, dO, Res.bind, Res.toS, Res.ofO, Rs.toR, Rs.ofO, opC, eqL, asB, eqC_int, flat, sz0, sz1, sz2, sz3, sz4, sz5, sz6, sz7, List.getElem?_cons_zero, List.getElem?_cons_succ, e', seqOf, hr, tgOf]
theorem walk2 {n a b m : Nat} (hm : m < 255) (s c sr x6 x7 x8 x9 x10 x11 : Option Va) (M : Mem) :
    ∃ y6 y7 y8 y9 y10 y11 X, dS (orcN pg.fs (n + 81)) l8_law (envQ s c sr (some (one a)) (some (oth b)) (some (nn m)) x6 x7 x8 x9 x10 x11) M = .nx (envQ s c sr (some (one a)) (some (oth b)) (some (nn m)) y6 y7 y8 y9 y10 y11) (M ++ X) := by
  obtain ⟨r, X, e, hr⟩ := list_at (L2_at a b m) rfl (L2_pure a b m) (n + 76) M
  have e' : (orcN pg.fs (n + 81)).cl 55 [one a, oth b, nn m] M = .ok (.ref r) (M ++ X) := e
  obtain ⟨env2, Y, q, y6, y7, y8, y9, y10, y11, h⟩ := for_live0 (o := orcN pg.fs (n + 81)) (tg := tgOf l8_law) (b := b7_law) (L := L2 a b m) (r := r)
    (fun env => ∃ y6 y7 y8 y9 y10 y11, env = envQ s c sr (some (one a)) (some (oth b)) (some (nn m)) y6 y7 y8 y9 y10 y11)
    (fun v hv env M hE => by
      obtain ⟨y6, y7, y8, y9, y10, y11, rfl⟩ := hE
      obtain ⟨f, t, gs, w, rfl, hg, hR⟩ := L2_all hm v hv
      obtain ⟨X, hX⟩ := body2 (n := n) hg hR s c sr (some (one a)) (some (oth b)) (some (nn m)) y10 y11 M
      exact ⟨_, _, X, rfl, hX, _, _, _, _, _, _, rfl⟩) (by simp [L2]) (env := envQ s c sr (some (one a)) (some (oth b)) (some (nn m)) x6 x7 x8 x9 x10 x11) (M := M ++ X) ⟨_, _, _, _, _, _, rfl⟩ hr
  subst h
  refine ⟨y6, y7, y8, y9, y10, y11, X ++ Y, ?_⟩
  rw [← List.append_assoc, ← q]
  simp only [l8_law, dSs, dS, dE, dEs, dB_one, dB_and, dB_or, ite_and, ite_or, dC, dI, dO, Res.bind, Res.toS, Res.ofO, Rs.toR, Rs.ofO, opC, eqL, asB, eqC_int, flat, sz0, sz1, sz2, sz3, sz4, sz5, sz6, sz7, List.getElem?_cons_zero, List.getElem?_cons_succ, e', seqOf, hr, tgOf]
theorem walk3 {n a b m : Nat} (hm : m < 255) (s c sr x6 x7 x8 x9 x10 x11 : Option Va) (M : Mem) :
    ∃ y6 y7 y8 y9 y10 y11 X, dS (orcN pg.fs (n + 81)) l12_law (envQ s c sr (some (one a)) (some (oth b)) (some (nn m)) x6 x7 x8 x9 x10 x11) M = .nx (envQ s c sr (some (one a)) (some (oth b)) (some (nn m)) y6 y7 y8 y9 y10 y11) (M ++ X) := by
  obtain ⟨r, X, e, hr⟩ := list_at (L3_at a b m) rfl (L3_pure a b m) (n + 76) M
  have e' : (orcN pg.fs (n + 81)).cl 56 [one a, oth b, nn m] M = .ok (.ref r) (M ++ X) := e
  obtain ⟨env2, Y, q, y6, y7, y8, y9, y10, y11, h⟩ := for_live0 (o := orcN pg.fs (n + 81)) (tg := tgOf l12_law) (b := b11_law) (L := L3 a b m) (r := r)
    (fun env => ∃ y6 y7 y8 y9 y10 y11, env = envQ s c sr (some (one a)) (some (oth b)) (some (nn m)) y6 y7 y8 y9 y10 y11)
    (fun v hv env M hE => by
      obtain ⟨y6, y7, y8, y9, y10, y11, rfl⟩ := hE
      obtain ⟨p, gs, st, rfl, hg, ho, hR⟩ := L3_all hm v hv
      obtain ⟨X, hX⟩ := body3 (n := n) hg ho hR s c sr (some (one a)) (some (oth b)) (some (nn m)) y6 y8 y9 M
      exact ⟨_, _, X, rfl, hX, _, _, _, _, _, _, rfl⟩) (by simp [L3]) (env := envQ s c sr (some (one a)) (some (oth b)) (some (nn m)) x6 x7 x8 x9 x10 x11) (M := M ++ X) ⟨_, _, _, _, _, _, rfl⟩ hr
  subst h
  refine ⟨y6, y7, y8, y9, y10, y11, X ++ Y, ?_⟩
  rw [← List.append_assoc, ← q]
  simp only [l12_law, dSs, dS, dE, dEs, dB_one, dB_and, dB_or, ite_and, ite_or, dC, dI, dO, Res.bind, Res.toS, Res.ofO, Rs.toR, Rs.ofO, opC, eqL, asB, eqC_int, flat, sz0, sz1, sz2, sz3, sz4, sz5, sz6, sz7, List.getElem?_cons_zero, List.getElem?_cons_succ, e', seqOf, hr, tgOf]
theorem one_ofNat {d : Int} (h : 0 ≤ d) : ∃ k : Nat, d = k ∧ Va.int (1 + d) = .int (Int.ofNat (k + 1)) := by
  obtain ⟨k, rfl⟩ := Int.eq_ofNat_of_zero_le h
  exact ⟨k, rfl, by congr 1; simp; omega⟩
theorem law_cell {n : Nat} {M : Mem} (z : Int) (s x2 x3 x4 x5 x6 x7 x8 x9 x10 x11 : Option Va) :
    ∃ y2 y3 y4 y5 y6 y7 y8 y9 y10 y11 M', dSs (orcN pg.fs (n + 81)) b16_law (envQ s (some (.int z)) x2 x3 x4 x5 x6 x7 x8 x9 x10 x11) M = .nx (envQ s (some (.int z)) y2 y3 y4 y5 y6 y7 y8 y9 y10 y11) M' := by
  have e13 : dS (orcN pg.fs (n + 81)) s13_law (envQ s (some (.int z)) x2 x3 x4 x5 x6 x7 x8 x9 x10 x11) M = .nx (envQ s (some (.int z)) (some (.ref M.length)) x3 x4 x5 x6 x7 x8 x9 x10 x11) (M ++ [srcO z z 0]) := by
    have h : (orcN pg.fs (n + 81)).cl 50 [.int z] M = .ok (.ref M.length) (M ++ [srcO z z 0]) := by
      rw [show n + 81 = (n + 80) + 1 by omega, c__law_source]
      simp [b__law_source, dSs, dS, dE, dEs, dB_one, dB_and, dB_or, ite_and, ite_or, dC, dI, dO, Res.bind, Res.toS, Res.ofO, Rs.toR, Rs.ofO, opC, eqL, asB, eqC_int, flat, sz0, sz1, sz2, sz3, sz4, sz5, sz6, sz7, newL, srcO]
    simp [s13_law, dSs, dS, dE, dEs, dB_one, dB_and, dB_or, ite_and, ite_or, dC, dI, dO, Res.bind, Res.toS, Res.ofO, Rs.toR, Rs.ofO, opC, eqL, asB, eqC_int, flat, sz0, sz1, sz2, sz3, sz4, sz5, sz6, sz7, h]
  have hs : Src (M ++ [srcO z z 0]) M.length := ⟨z, z, 0, by simp⟩
  generalize hM1 : M ++ [srcO z z 0] = M1 at *
  generalize M.length = sr at *
  obtain ⟨d1, o1, t1, a1, b1, hs1⟩ := take_ok (n := n + 79) (b := 300) hs (by omega) (log_small (by omega) (by omega))
  generalize M1.set sr o1 = M2 at *
  obtain ⟨d2, o2, t2, a2, b2, hs2⟩ := take_ok (n := n + 79) (b := 1000000000) hs1 (by omega) (log_small (by omega) (by omega))
  generalize M2.set sr o2 = M3 at *
  obtain ⟨d3, o3, t3, a3, b3, hs3⟩ := take_ok (n := n + 79) (b := 255) hs2 (by omega) (log_small (by omega) (by omega))
  generalize M3.set sr o3 = M4 at *
  obtain ⟨a, ha, va⟩ := one_ofNat a1
  obtain ⟨b, hb, vb⟩ := one_ofNat a2
  obtain ⟨m, hm, vm⟩ := one_ofNat a3
  have t1' : (orcN pg.fs (n + 81)).cl 51 [.ref sr, .int 300] M1 = .ok (.int d1) M2 := t1
  have t2' : (orcN pg.fs (n + 81)).cl 51 [.ref sr, .int 1000000000] M2 = .ok (.int d2) M3 := t2
  have t3' : (orcN pg.fs (n + 81)).cl 51 [.ref sr, .int 255] M3 = .ok (.int d3) M4 := t3
  have p9 : opB false .Pow (.int 10) (.int 9) M2 = .ok (.int 1000000000) M2 := by
    simp [opB]
  have e14 : dS (orcN pg.fs (n + 81)) s14_law (envQ s (some (.int z)) (some (.ref sr)) x3 x4 x5 x6 x7 x8 x9 x10 x11) M1 = .nx (envQ s (some (.int z)) (some (.ref sr)) (some (one a)) (some (oth b)) x5 x6 x7 x8 x9 x10 x11) M3 := by
    rw [show one a = .int (1 + d1) from va.symm, show oth b = .int (1 + d2) from vb.symm]
    have p1 : opB false .Add (.int 1) (.int d1) M2 = .ok (.int (1 + d1)) M2 := by simp [opB]
    have p2 : opB false .Add (.int 1) (.int d2) M3 = .ok (.int (1 + d2)) M3 := by simp [opB]
    simp [s14_law, dSs, dS, dE, dEs, dB_one, dB_and, dB_or, ite_and, ite_or, dC, dI, dO, Res.bind, Res.toS, Res.ofO, Rs.toR, Rs.ofO, opC, eqL, asB, eqC_int, flat, sz0, sz1, sz2, sz3, sz4, sz5, sz6, sz7, t1', t2', p9, p1, p2]
  have e15 : dS (orcN pg.fs (n + 81)) s15_law (envQ s (some (.int z)) (some (.ref sr)) (some (one a)) (some (oth b)) x5 x6 x7 x8 x9 x10 x11) M3 = .nx (envQ s (some (.int z)) (some (.ref sr)) (some (one a)) (some (oth b)) (some (nn m)) x6 x7 x8 x9 x10 x11) M4 := by
    rw [show nn m = .int (1 + d3) from vm.symm]
    have p1 : opB false .Add (.int 1) (.int d3) M4 = .ok (.int (1 + d3)) M4 := by simp [opB]
    simp [s15_law, dSs, dS, dE, dEs, dB_one, dB_and, dB_or, ite_and, ite_or, dC, dI, dO, Res.bind, Res.toS, Res.ofO, Rs.toR, Rs.ofO, opC, eqL, asB, eqC_int, flat, sz0, sz1, sz2, sz3, sz4, sz5, sz6, sz7, t3', p1]
  have hm' : m < 255 := by omega
  obtain ⟨y6, y7, y8, y9, y10, y11, X, w1⟩ := walk1 (n := n) (a := a) (b := b) hm' s (some (.int z)) (some (.ref sr)) x6 x7 x8 x9 x10 x11 M4
  obtain ⟨u6, u7, u8, u9, u10, u11, Y, w2⟩ := walk2 (n := n) (a := a) (b := b) hm' s (some (.int z)) (some (.ref sr)) y6 y7 y8 y9 y10 y11 (M4 ++ X)
  obtain ⟨v6, v7, v8, v9, v10, v11, Z, w3⟩ := walk3 (n := n) (a := a) (b := b) hm' s (some (.int z)) (some (.ref sr)) u6 u7 u8 u9 u10 u11 (M4 ++ X ++ Y)
  refine ⟨some (.ref sr), some (one a), some (oth b), some (nn m), v6, v7, v8, v9, v10, v11, M4 ++ X ++ Y ++ Z, ?_⟩
  rw [b16_law, dSs_nx e13, dSs_nx e14, dSs_nx e15, dSs_nx w1, dSs_nx w2, dSs_nx w3, dSs_nil]
end K19
namespace K19
open PySem Dn Pr
/-- a walk by its invariant -/
theorem for_inv {o : Orc} {tg : Tg} {b : Ss} {t : Itv} (N : Nat) (val : Nat → Va) (I : Nat → Dn.Env → Mem → Prop)
    (hat : ∀ i env M, i < N → I i env M → t.at M i = some (some (val i))) (hend : ∀ env M, I N env M → t.at M N = some none)
    (hb : ∀ i env M, i < N → I i env M → ∃ env' env2 M2, tgSet tg (val i) env = some env' ∧ dSs o b env' M = .nx env2 M2 ∧ I (i + 1) env2 M2) :
    ∀ (d i k : Nat) (env : Dn.Env) (M : Mem), i + d = N → d < k → I i env M → ∃ env2 M2, forL t (tgSet tg) (fun env M => dSs o b env M) k i env M = .nx env2 M2 ∧ I N env2 M2
  | d, i, 0, env, M, hd, hk, h => by omega
  | 0, i, k + 1, env, M, hd, hk, h => by
    have e : i = N := by omega
    subst e
    exact ⟨env, M, forL_stop (hend env M h), h⟩
  | d + 1, i, k + 1, env, M, hd, hk, h => by
    obtain ⟨env', env2, M2, h1, h2, h3⟩ := hb i env M (by omega) h
    obtain ⟨env3, M3, e3, h4⟩ := for_inv N val I hat hend hb d (i + 1) k env2 M2 (by omega) (by omega) h3
    exact ⟨env3, M3, by rw [forL_next (hat i env M (by omega) h) h1 h2]; exact e3, h4⟩
theorem for_inv0 {o : Orc} {tg : Tg} {b : Ss} {t : Itv} (N : Nat) (val : Nat → Va) (I : Nat → Dn.Env → Mem → Prop)
    (hat : ∀ i env M, i < N → I i env M → t.at M i = some (some (val i))) (hend : ∀ env M, I N env M → t.at M N = some none)
    (hb : ∀ i env M, i < N → I i env M → ∃ env' env2 M2, tgSet tg (val i) env = some env' ∧ dSs o b env' M = .nx env2 M2 ∧ I (i + 1) env2 M2)
    (hN : N < 16777300) {env : Dn.Env} {M : Mem} (h : I 0 env M) : ∃ env2 M2, forL t (tgSet tg) (fun env M => dSs o b env M) fuelW 0 env M = .nx env2 M2 ∧ I N env2 M2 :=
  for_inv N val I hat hend hb N 0 fuelW env M (by omega) (by unfold fuelW; omega) h
theorem cut_take {α : Type} (xs : List α) {z : Int} {c : Nat} (hz : z = (c : Nat)) : cutA xs none (some z) = xs.take c := by
  subst hz
  simp only [cutA, HT.sIx_none, HT.sIx_nat, List.drop_zero, Nat.sub_zero]
  rw [List.take_eq_take_iff]
  omega
theorem law_true (ns : List Int) (hl : ns.length ≤ 63) (_ : ∀ z ∈ ns, Builtin.Int.intBits z ≤ 1048576) : ∃ M, (orcN pg.fs 90).cl 57 [.lst (ns.map .int)] [] = .ok (.bl true) M := by
  rw [show (90 : Nat) = (8 + 81) + 1 from rfl, c_law]
  let xs : List Va := (ns.map Va.int ++ [Va.int 0]).take 4
  have hx : ∀ (i : Nat) (v : Va), xs[i]? = some v → ∃ c, v = .int c := by
    intro i v hv
    have := List.mem_of_mem_take (List.mem_of_getElem? hv)
    rcases List.mem_append.mp this with h | h
    · obtain ⟨c, _, e⟩ := List.mem_map.mp h
      exact ⟨c, e.symm⟩
    · exact ⟨0, List.mem_singleton.mp h⟩
  have hlen : xs.length ≤ 4 := by simp [xs]; omega
  obtain ⟨env2, M2, e, x1, x2, x3, x4, x5, x6, x7, x8, x9, x10, x11, h⟩ := for_inv0 (o := orcN pg.fs (8 + 81)) (tg := tgOf l17_law) (b := b16_law) (t := .vals xs) xs.length (fun i => (xs[i]?).getD .non)
    (fun i env M => ∃ x1 x2 x3 x4 x5 x6 x7 x8 x9 x10 x11, env = envQ (some (.lst (ns.map .int))) x1 x2 x3 x4 x5 x6 x7 x8 x9 x10 x11)
    (fun i env M hi h => by
      show some xs[i]? = _
      rw [List.getElem?_eq_getElem hi]
      rfl)
    (fun env M h => by
      show some xs[xs.length]? = _
      rw [List.getElem?_eq_none (Nat.le_refl _)])
    (fun i env M hi h => by
      obtain ⟨x1, x2, x3, x4, x5, x6, x7, x8, x9, x10, x11, rfl⟩ := h
      obtain ⟨z, hz⟩ := hx i xs[i] (List.getElem?_eq_getElem hi)
      obtain ⟨y2, y3, y4, y5, y6, y7, y8, y9, y10, y11, M', q⟩ := law_cell (n := 8) (M := M) z (some (.lst (ns.map .int))) x2 x3 x4 x5 x6 x7 x8 x9 x10 x11
      refine ⟨envQ (some (.lst (ns.map .int))) (some (.int z)) x2 x3 x4 x5 x6 x7 x8 x9 x10 x11, _, M', ?_, q, _, _, _, _, _, _, _, _, _, _, _, rfl⟩
      rw [List.getElem?_eq_getElem hi, hz]
      rfl)
    (by omega) (env := envQ (some (.lst (ns.map .int))) none none none none none none none none none none none) (M := []) ⟨_, _, _, _, _, _, _, _, _, _, _, rfl⟩
  subst h
  have e17 : dS (orcN pg.fs (8 + 81)) l17_law (envQ (some (.lst (ns.map .int))) none none none none none none none none none none none) [] = .nx (envQ (some (.lst (ns.map .int))) x1 x2 x3 x4 x5 x6 x7 x8 x9 x10 x11) M2 := by
    rw [← e]
    have h1 : opB false .Add (.lst (ns.map .int)) (.lst [.int 0]) [] = .ok (.lst (ns.map Va.int ++ [Va.int 0])) [] := by
      simp only [opB, itemsL]
      rw [if_pos (by rw [sizeLine_eq']; simp; omega), newL, if_pos (by rw [sizeLine_eq']; simp; omega)]
      rfl
    have h2 : opSl false (.lst (ns.map Va.int ++ [Va.int 0])) none (some 4) [] = .ok (.lst xs) [] := by
      simp only [opSl, itemsL, cut_take (ns.map Va.int ++ [Va.int 0]) (z := 4) (c := 4) rfl]
      rfl
    simp [l17_law, dSs, dS, dE, dEs, dB_one, dB_and, dB_or, ite_and, ite_or, dC, dI, dO, Res.bind, Res.toS, Res.ofO, Rs.toR, Rs.ofO, opC, eqL, asB, eqC_int, flat, sz0, sz1, sz2, sz3, sz4, sz5, sz6, sz7, newL, h1, h2, seqOf, tgOf]
  refine ⟨M2, ?_⟩
  rw [b_law, dSs_nx e17]
  simp [s18_law, dSs, dS, dE, dEs, dB_one, dB_and, dB_or, ite_and, ite_or, dC, dI, dO, Res.bind, Res.toS, Res.ofO, Rs.toR, Rs.ofO, opC, eqL, asB, eqC_int, flat, sz0, sz1, sz2, sz3, sz4, sz5, sz6, sz7]
end K19
namespace K19
open PySem PySem.Spec PyProof.Rows L2 Dn
abbrev R : PySem.W.OpenRow := PySem.W.OpenLaw.row PySem.Challenge.rw_shellways_k19_loops_and_calls_case_by_ca
abbrev hk : PySem.W.Hook := hookX pg 6
def ob (s : PySem.W.SharedT) : He.AlD := obsX pg 6 (HandSHeadRun.getT s)
theorem ob_eq (s : PySem.W.SharedT) : ob s = hk.obs s.abs := obsX_eq pg (HandSHeadRun.getT_eq s)
def names : List PySem.Str := (["_wall", "ShellError", "InvalidProgram", "InvalidRow", "is_integer", "is_at_least", "is_between", "is_name", "is_number_or_none", "kids_of", "is_leaf", "is_word", "is_node", "is_jump", "Checker", "require_program"] : List PySem.Str) ++ (["size_of", "unfolded_size", "trees_of", "variables_of", "Code", "ShellData", "Player", "started", "require_row", "played", "outcome_of", "run", "_law_mixed", "_law_source", "_law_take", "_law_pick"] : List PySem.Str) ++ (["_law_shown", "_law_loops", "_law_calls", "_law_ended", "MAX_TREES", "MAX_DEPTH", "MAX_FUNCTIONS", "MAX_VARIABLES", "MAX_UNFOLDED", "MAX_STATUS", "MAX_TIMES", "MAX_LETTERS", "LETTERS", "MAX_SILENT", "MAX_ROW", "RESERVED"] : List PySem.Str) ++ (["LOOPS", "LOOP_FRAMES"] : List PySem.Str)
theorem run (w : World) : HandSHeadRun.RunEq R (PySem.W.view R.prog [54]) hk ob 12000 names w := by
  intro os
  kernel_rfl
end K19
open PySem PySem.W PySem.Calls PyProof.Rows in
theorem PySem.Challenge.cw_shellways_k19_loops_and_calls_case_by_ca_holds : PySem.Challenge.rw_shellways_k19_loops_and_calls_case_by_ca.Holds := by
  w_on; o_law
  refine HandSHeadRun.head_any (r := OpenLaw.row PySem.Challenge.rw_shellways_k19_loops_and_calls_case_by_ca) (q := view (OpenLaw.row PySem.Challenge.rw_shellways_k19_loops_and_calls_case_by_ca).prog [54]) (H := K19.hk) (ob := K19.ob) (M := 12000) (loose := K19.names) (d := HandSHeadRun.topDef (OpenLaw.row PySem.Challenge.rw_shellways_k19_loops_and_calls_case_by_ca).prog 54) (kwd := []) K19.ob_eq
    (by kernel_rfl) (fun s => by kernel_rfl) K19.run (by kernel_rfl) (by kernel_rfl) (by kernel_rfl) (by rfl) (by first | assumption | decide +kernel) (by decide +kernel) ⟨rfl, rfl, rfl, rfl, rfl, by decide +kernel⟩ ?hw ?hc
  case hw => w_witness2
  case hc =>
    refine LamX.walk_ofTsE (l := PySem.Challenge.rw_shellways_k19_loops_and_calls_case_by_ca) (n := 63) (k := 90 + 2) (x := "_law_script") (CX := fun w => L2.CX (PySem.Challenge.rw_shellways_k19_loops_and_calls_case_by_ca).prog w) rfl (by decide) (by kernel_rfl) ⟨rfl, by decide +kernel, by decide +kernel⟩ ?F ?X
    case X => exact fun w H s e s' z => by obtain ⟨_, _, _, _, _, _, _, _, _, _, _, _, z⟩ := z; exact z.elim
    intro w mg fa h Y G hmg0
    obtain ⟨K, KX, c⟩ := Y
    have hmg : mg ("law" : PySem.Str) = some (.ref fa) := by
      have e : (HandSHeadRun.topDef (OpenLaw.row PySem.Challenge.rw_shellways_k19_loops_and_calls_case_by_ca).prog 54).name = ("law" : PySem.Str) := by kernel_rfl
      rw [← e]
      exact hmg0
    exact ⟨K, KX, Dn.law_at (f := 57) (d := K19.d_law) K19.fld_ok K19.dfs_ok K19.exs_ok rfl rfl rfl K19.law_true mg fa h KX G c hmg⟩
