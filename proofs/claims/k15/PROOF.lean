import PyProof.Rows.All
import Wide.All
import OpenK.AllK
import Wide.FinOn
import HandS.ForMost
import HandS.Flow
import HandS.TupMul
import HandS.TupAny
import HandS.Deep
import HandS.IsInst
import HandS.SortInts
import HandS.Conv
import HandS.Zip
import HandS.Walk
import HandS.Exc
import HandS.ExcOwn
import HandS.ExcIs
import HandS.WordsExc
import HandS.TryOnly
import HandS.Small
import HandS.Defaults
import PyProof.ListMulRoad
import PyProof.FactsAll.tuple_2
import HandS.Star
import HandS.Style
import KE.GoesMore
import HandS.Head0
import HandS.Head1
import HandS.Head2
import HandS.HeadEnd
import HandS.HeadHook1
import HandS.HeadHook2
import HandS.HeadHook3
import HandS.HeadHook4
import PySem.Challenge.RW_halfring_k15_whole_life_or_reason
set_option Elab.async false
set_option linter.all false
set_option maxRecDepth 100000
set_option maxHeartbeats 4000000
set_option autoImplicit false
namespace K15
open PySem PySem.Spec PyProof.Rows L2
/-! ### data, stores -/
/-- the types that isinstance is asked for -/
inductive Ty5 where
  | int | bool | str | list | tuple
def Ty5.name : Ty5 → String
  | .int => "int" | .bool => "bool" | .str => "str" | .list => "list" | .tuple => "tuple"
/-- a value: data; a mutable list by its number in the store; a type; a tuple of types; the script -/
inductive Wv where
  | d (x : PyData) | ref (n : Nat) | ty (n : Ty5) | tys (ns : List Ty5) | scr (ns : List Int)
abbrev DEnv := List (Option Wv)
abbrev Sto := List (List Wv)
abbrev ME := DEnv → Sto → Option (Wv × Sto)
abbrev MT := DEnv → Sto → Option (Bool × Sto)
abbrev MF := DEnv → Sto → Option (List Wv × Sto)
abbrev MA := DEnv → Sto → Option (List Wv × Sto)
mutual
inductive RD (K : PySem.W.Frag) (M : Addr → Prop) (H : Hp) : V → PyData → Prop
  | non : RD K M H .non .none
  | bl (b : Bool) : RD K M H (.bl b) (.bool b)
  | int (i : Int) : RD K M H (.int i) (.int i)
  | str (x : Str) : RD K M H (.str x) (.str x)
  | lst {a : Addr} {vs : List V} {ds : List PyData} : H a = some (.lst vs) → ¬ M a → RDs K M H vs ds → RD K M H (.ref a) (.list ds)
  | tup {a : Addr} {vs : List V} {ds : List PyData} : SqT K H a vs → RDs K M H vs ds → RD K M H (.ref a) (.tuple ds)
inductive RDs (K : PySem.W.Frag) (M : Addr → Prop) (H : Hp) : List V → List PyData → Prop
  | nil : RDs K M H [] []
  | cons {v : V} {vs : List V} {d : PyData} {ds : List PyData} : RD K M H v d → RDs K M H vs ds → RDs K M H (v :: vs) (d :: ds)
end
section
variable {K : PySem.W.Frag} {M M' : Addr → Prop} {H H' : Hp}
mutual
/-- data stays where the heap's immutable part stays -/
theorem RD.mono (hl : ∀ a vs, H a = some (.lst vs) → ¬ M a → H' a = some (.lst vs) ∧ ¬ M' a) (ht : ∀ a vs, SqT K H a vs → SqT K H' a vs) : ∀ (d : PyData) (v : V), RD K M H v d → RD K M' H' v d
  | .none, _, h => by cases h; exact .non
  | .bool b, _, h => by cases h; exact .bl b
  | .int i, _, h => by cases h; exact .int i
  | .str x, _, h => by cases h; exact .str x
  | .list ds, _, h => by
    cases h with
    | lst h1 h2 h3 =>
      obtain ⟨a, b⟩ := hl _ _ h1 h2
      exact .lst a b (RDs.mono hl ht ds _ h3)
  | .tuple ds, _, h => by
    cases h with
    | tup h1 h3 => exact .tup (ht _ _ h1) (RDs.mono hl ht ds _ h3)
  | .dict _, _, h => by cases h
theorem RDs.mono (hl : ∀ a vs, H a = some (.lst vs) → ¬ M a → H' a = some (.lst vs) ∧ ¬ M' a) (ht : ∀ a vs, SqT K H a vs → SqT K H' a vs) : ∀ (ds : List PyData) (vs : List V), RDs K M H vs ds → RDs K M' H' vs ds
  | [], _, h => by cases h; exact .nil
  | d :: ds, _, h => by
    cases h with
    | cons h1 h2 => exact .cons (RD.mono hl ht d _ h1) (RDs.mono hl ht ds _ h2)
end
mutual
theorem RD.dp : ∀ (d : PyData) (v : V), RD K M H v d → Dp K H v d
  | .none, _, h => by cases h; exact .non
  | .bool b, _, h => by cases h; exact .bl b
  | .int i, _, h => by cases h; exact .int i
  | .str x, _, h => by cases h; exact .str x
  | .list ds, _, h => by
    cases h with
    | lst h1 h2 h3 => exact .lst (SqL.of h1) (RDs.dp ds _ h3)
  | .tuple ds, _, h => by
    cases h with
    | tup h1 h3 => exact .tup h1 (RDs.dp ds _ h3)
  | .dict _, _, h => by cases h
theorem RDs.dp : ∀ (ds : List PyData) (vs : List V), RDs K M H vs ds → DpAll K H vs ds
  | [], _, h => by cases h; exact .nil
  | d :: ds, _, h => by
    cases h with
    | cons h1 h2 => exact .cons (RD.dp d _ h1) (RDs.dp ds _ h2)
end
theorem RDs.length : ∀ {vs : List V} {ds : List PyData}, RDs K M H vs ds → vs.length = ds.length
  | _, _, .nil => rfl
  | _, _, .cons _ t => congrArg (· + 1) (RDs.length t)
theorem RDs.get : ∀ {vs : List V} {ds : List PyData} {i : Nat} {d : PyData}, RDs K M H vs ds → ds[i]? = some d → ∃ v, vs[i]? = some v ∧ RD K M H v d
  | _, _, _, _, .nil, e => by simp at e
  | _, _, 0, _, .cons r _, e => by simp at e; subst e; exact ⟨_, rfl, r⟩
  | _, _, i + 1, d, .cons _ t, e => by
    obtain ⟨u, h1, h2⟩ := RDs.get (i := i) (d := d) t (by simpa using e)
    exact ⟨u, by simpa using h1, h2⟩
theorem RDs.append : ∀ {vs us : List V} {ds es : List PyData}, RDs K M H vs ds → RDs K M H us es → RDs K M H (vs ++ us) (ds ++ es)
  | _, _, _, _, .nil, s => s
  | _, _, _, _, .cons r t, s => .cons r (RDs.append t s)
theorem RDs.take : ∀ {vs : List V} {ds : List PyData} (n : Nat), RDs K M H vs ds → RDs K M H (vs.take n) (ds.take n)
  | _, _, 0, _ => .nil
  | _, _, _ + 1, .nil => .nil
  | _, _, n + 1, .cons r t => .cons r (RDs.take n t)
theorem RDs.drop : ∀ {vs : List V} {ds : List PyData} (n : Nat), RDs K M H vs ds → RDs K M H (vs.drop n) (ds.drop n)
  | _, _, 0, r => r
  | _, _, _ + 1, .nil => .nil
  | _, _, n + 1, .cons _ t => RDs.drop n t
theorem RDs.rep {vs : List V} {ds : List PyData} (h : RDs K M H vs ds) : ∀ k : Nat, RDs K M H (List.replicate k vs).flatten (List.replicate k ds).flatten
  | 0 => .nil
  | k + 1 => by
    rw [List.replicate_succ, List.replicate_succ, List.flatten_cons, List.flatten_cons]
    exact h.append (h.rep k)
theorem RDs.nil_iff {vs : List V} {ds : List PyData} (h : RDs K M H vs ds) : vs = [] ↔ ds = [] := by
  cases h <;> simp
theorem RD.fun1 : ∀ {v u : V} {d : PyData}, RD K M H v d → True := fun _ => trivial
end
/-! ### the relation of values -/
abbrev Mb (α ξ : List Addr) : Addr → Prop := fun a => a ∈ α ∨ a ∈ ξ
def RW (K : PySem.W.Frag) (α ξ : List Addr) (H : Hp) (v : V) : Wv → Prop
  | .d x => RD K (Mb α ξ) H v x
  | .ref n => ∃ a, v = .ref a ∧ α[n]? = some a
  | .ty n => v = .ty n.name
  | .tys ns => ∃ a, v = .ref a ∧ H a = some (.tup (ns.map fun n => V.ty n.name))
  | .scr ns => ∃ a, v = .ref a ∧ ((H a = some (.lst (ns.map V.int)) ∧ ¬ Mb α ξ a) ∨ (∃ o, H a = some (.frz o (.lst (ns.map V.int)))) ∨ ∀ H0 : Hp, SqL K H0 a (ns.map V.int))
abbrev RWs (K : PySem.W.Frag) (α ξ : List Addr) (H : Hp) : List V → List Wv → Prop := Paired (RW K α ξ H)
structure RS (K : PySem.W.Frag) (α ξ : List Addr) (S : Sto) (H : Hp) : Prop where
  len : α.length = S.length
  nd : α.Nodup
  at_ : ∀ (i : Nat) (a : Addr) (ws : List Wv), α[i]? = some a → S[i]? = some ws → ∃ vs, H a = some (.lst vs) ∧ RWs K α ξ H vs ws
  ex : ∀ a ∈ ξ, ∃ vs, H a = some (.lst vs)
  apart : ∀ a ∈ ξ, a ∉ α
structure Ext (α : List Addr) (H : Hp) (α' : List Addr) (H' : Hp) : Prop where
  pre : ∃ β, α' = α ++ β ∧ ∀ b ∈ β, H b = none
  keep : ∀ a o, H a = some o → a ∉ α → H' a = some o
  live : ∀ a, H' a = none → H a = none
def RE (K : PySem.W.Frag) (α ξ : List Addr) (H : Hp) (σ : L2.St) (δ : DEnv) : Prop :=
  σ.length = δ.length ∧ ∀ (i : Nat) (w : Wv), δ[i]? = some (some w) → ∃ v, σ[i]? = some (some v) ∧ RW K α ξ H v w
section
variable {K : PySem.W.Frag} {α α' α₂ ξ : List Addr} {H H' H₂ : Hp} {S S' : Sto} {v : V} {w : Wv} {σ : L2.St} {δ : DEnv}
theorem RS.lst (r : RS K α ξ S H) {a : Addr} (h : a ∈ α) : ∃ vs, H a = some (.lst vs) := by
  obtain ⟨i, hi, e⟩ := List.mem_iff_getElem.mp h
  have h1 : α[i]? = some a := by rw [List.getElem?_eq_getElem hi, e]
  have h2 : i < S.length := by rw [← r.len]; exact hi
  obtain ⟨vs, q, _⟩ := r.at_ i a S[i] h1 (List.getElem?_eq_getElem h2)
  exact ⟨vs, q⟩
theorem RS.mlst (r : RS K α ξ S H) {a : Addr} (h : Mb α ξ a) : ∃ vs, H a = some (.lst vs) := h.elim r.lst (r.ex a)
theorem RS.ntup (r : RS K α ξ S H) {a : Addr} {vs : List V} (h : H a = some (.tup vs)) : ¬ Mb α ξ a := fun m => by
  obtain ⟨us, e⟩ := r.mlst m
  rw [h] at e; cases e
theorem RS.nfrz (r : RS K α ξ S H) {a : Addr} {o : Obj} {u : HO} (h : H a = some (.frz o u)) : ¬ Mb α ξ a := fun m => by
  obtain ⟨us, e⟩ := r.mlst m
  rw [h] at e; cases e
theorem RS.nnone (r : RS K α ξ S H) {a : Addr} (h : H a = none) : ¬ Mb α ξ a := fun m => by
  obtain ⟨us, e⟩ := r.mlst m
  rw [h] at e; cases e
theorem Ext.refl : Ext α H α H := ⟨⟨[], by simp, fun _ h => by simp at h⟩, fun _ _ h _ => h, fun _ h => h⟩
theorem Ext.out (a : Ext α H α' H') {c : Addr} {o : HO} (h : H c = some o) (hc : c ∉ α) : c ∉ α' := fun m => by
  obtain ⟨β, e1, n1⟩ := a.pre
  rw [e1] at m
  rcases List.mem_append.mp m with m | m
  · exact hc m
  · rw [n1 c m] at h; cases h
theorem Ext.trans (a : Ext α H α' H') (b : Ext α' H' α₂ H₂) : Ext α H α₂ H₂ := by
  obtain ⟨β, e1, n1⟩ := a.pre
  obtain ⟨γ, e2, n2⟩ := b.pre
  refine ⟨⟨β ++ γ, by rw [e2, e1, List.append_assoc], fun c hc => ?_⟩, fun c o h hc => b.keep c o (a.keep c o h hc) (a.out h hc), fun c h => a.live c (b.live c h)⟩
  rcases List.mem_append.mp hc with m | m
  · exact n1 c m
  · exact a.live c (n2 c m)
theorem Ext.at_ (a : Ext α H α' H') {n : Nat} {c : Addr} (h : α[n]? = some c) : α'[n]? = some c := by
  obtain ⟨β, e1, _⟩ := a.pre
  rw [e1, List.getElem?_append_left (List.getElem?_eq_some_iff.mp h).1, h]
theorem Ext.tup (a : Ext α H α' H') (r : RS K α ξ S H) {c : Addr} {vs : List V} (h : SqT K H c vs) : SqT K H' c vs := by
  rcases h with (h | ⟨o, h⟩) | h
  · exact .inl (.inl (a.keep c _ h fun m => r.ntup h (.inl m)))
  · exact .inl (.inr ⟨o, a.keep c _ h fun m => r.nfrz h (.inl m)⟩)
  · exact .inr h
theorem Ext.rd (a : Ext α H α' H') (r : RS K α ξ S H) {d : PyData} (h : RD K (Mb α ξ) H v d) : RD K (Mb α' ξ) H' v d :=
  RD.mono (fun c vs h1 h2 => ⟨a.keep c _ h1 fun m => h2 (.inl m), fun m => m.elim (fun m => a.out h1 (fun m => h2 (.inl m)) m) fun m => h2 (.inr m)⟩) (fun c vs h => a.tup r h) d v h
theorem Ext.rw (a : Ext α H α' H') (r : RS K α ξ S H) (h : RW K α ξ H v w) : RW K α' ξ H' v w := by
  cases w with
  | d x => exact a.rd r h
  | ref n =>
    obtain ⟨c, e, q⟩ := h
    exact ⟨c, e, a.at_ q⟩
  | ty n => exact h
  | tys ns =>
    obtain ⟨c, e, q⟩ := h
    exact ⟨c, e, a.keep c _ q fun m => r.ntup q (.inl m)⟩
  | scr ns =>
    obtain ⟨c, e, q⟩ := h
    refine ⟨c, e, ?_⟩
    rcases q with ⟨q, n⟩ | ⟨o, q⟩ | q
    · exact .inl ⟨a.keep c _ q fun m => n (.inl m), fun m => m.elim (fun m => a.out q (fun m => n (.inl m)) m) fun m => n (.inr m)⟩
    · exact .inr (.inl ⟨o, a.keep c _ q fun m => r.nfrz q (.inl m)⟩)
    · exact .inr (.inr q)
theorem Ext.rws (a : Ext α H α' H') (r : RS K α ξ S H) {vs : List V} {ws : List Wv} (h : RWs K α ξ H vs ws) : RWs K α' ξ H' vs ws := h.mono fun _ _ q => a.rw r q
theorem Ext.re (a : Ext α H α' H') (r : RS K α ξ S H) (h : RE K α ξ H σ δ) : RE K α' ξ H' σ δ := ⟨h.1, fun i w e => let ⟨v, q, z⟩ := h.2 i w e; ⟨v, q, a.rw r z⟩⟩
end
end K15
set_option Elab.async false
set_option linter.all false
set_option maxRecDepth 100000
set_option maxHeartbeats 4000000
set_option autoImplicit false
namespace K15
open PySem PySem.Spec PyProof.Rows L2
section
variable {K : PySem.W.Frag} {α α' ξ : List Addr} {H H' : Hp} {S S' : Sto} {v : V} {w : Wv} {σ : L2.St} {δ : DEnv} {p : Addr} {o : HO}
/-- a new object that no loc is -/
theorem ext_new (hp : H p = none) : Ext α H α (upd H p o) :=
  ⟨⟨[], by simp, fun _ h => by simp at h⟩, fun a u h _ => by rw [upd_ne (ne_of_none h hp)]; exact h, fun a h => by
    by_cases e : a = p
    · rw [e, upd_same] at h; cases h
    · rw [upd_ne e] at h; exact h⟩
theorem ext_loc (hp : H p = none) : Ext α H (α ++ [p]) (upd H p o) :=
  ⟨⟨[p], rfl, fun b h => by rw [List.mem_singleton.mp h]; exact hp⟩, (ext_new (α := α) hp).keep, (ext_new (α := α) hp).live⟩
theorem RS.new (r : RS K α ξ S H) (hp : H p = none) : RS K α ξ S (upd H p o) := by
  have x : Ext α H α (upd H p o) := ext_new hp
  refine ⟨r.len, r.nd, fun i a ws h1 h2 => ?_, fun a h => ?_, r.apart⟩
  · obtain ⟨vs, e, q⟩ := r.at_ i a ws h1 h2
    exact ⟨vs, by rw [upd_ne (ne_of_none e hp)]; exact e, x.rws r q⟩
  · obtain ⟨vs, e⟩ := r.ex a h
    exact ⟨vs, by rw [upd_ne (ne_of_none e hp)]; exact e⟩
theorem RS.loc (r : RS K α ξ S H) (hp : H p = none) {vs : List V} {ws : List Wv} (h : RWs K α ξ H vs ws) : RS K (α ++ [p]) ξ (S ++ [ws]) (upd H p (.lst vs)) := by
  have x : Ext α H (α ++ [p]) (upd H p (.lst vs)) := ext_loc hp
  refine ⟨by simp [r.len], ?_, fun i a us h1 h2 => ?_, fun a h => ?_, fun a h m => ?_⟩
  · refine List.nodup_append.mpr ⟨r.nd, by simp, fun a ha b hb => ?_⟩
    rw [List.mem_singleton.mp hb]
    intro e
    exact r.nnone hp (.inl (e ▸ ha))
  · by_cases hi : i < α.length
    · rw [List.getElem?_append_left hi] at h1
      rw [List.getElem?_append_left (by rw [← r.len]; exact hi)] at h2
      obtain ⟨vs', e, q⟩ := r.at_ i a us h1 h2
      exact ⟨vs', by rw [upd_ne (ne_of_none e hp)]; exact e, x.rws r q⟩
    · have hi2 : i = α.length := by
        have := (List.getElem?_eq_some_iff.mp h1).1
        simp at this
        omega
      subst hi2
      rw [List.getElem?_append_right (Nat.le_refl _)] at h1
      rw [List.getElem?_append_right (Nat.le_of_eq r.len.symm)] at h2
      simp [r.len] at h1 h2
      subst h1; subst h2
      exact ⟨vs, upd_same, x.rws r h⟩
  · obtain ⟨us, e⟩ := r.ex a h
    exact ⟨us, by rw [upd_ne (ne_of_none e hp)]; exact e⟩
  · rcases List.mem_append.mp m with m | m
    · exact r.apart a h m
    · rw [List.mem_singleton.mp m] at h
      exact r.nnone hp (.inr h)
theorem ext_set {n : Nat} {a : Addr} (h : α[n]? = some a) : Ext α H α (upd H a o) :=
  ⟨⟨[], by simp, fun _ h => by simp at h⟩, fun b u hb hn => by rw [upd_ne (show b ≠ a from fun e => hn (by rw [e]; exact List.mem_of_getElem? h))]; exact hb, fun b hb => by
    by_cases e : b = a
    · rw [e, upd_same] at hb; cases hb
    · rw [upd_ne e] at hb; exact hb⟩
theorem nodup_get {l : List Addr} (nd : l.Nodup) {i j : Nat} {a : Addr} (h1 : l[i]? = some a) (h2 : l[j]? = some a) : i = j := by
  obtain ⟨b1, e1⟩ := List.getElem?_eq_some_iff.mp h1
  obtain ⟨b2, e2⟩ := List.getElem?_eq_some_iff.mp h2
  exact (List.getElem_inj nd).mp (e1.trans e2.symm)
theorem RS.set (r : RS K α ξ S H) {n : Nat} {a : Addr} (h : α[n]? = some a) {vs : List V} {ws : List Wv} (q : RWs K α ξ H vs ws) : RS K α ξ (S.set n ws) (upd H a (.lst vs)) := by
  have x : Ext α H α (upd H a (.lst vs)) := ext_set h
  refine ⟨by simp [r.len], r.nd, fun i b us h1 h2 => ?_, fun b hb => ?_, r.apart⟩
  · by_cases e : i = n
    · subst e
      rw [h] at h1
      cases h1
      have hi : i < S.length := by rw [← r.len]; exact (List.getElem?_eq_some_iff.mp h).1
      rw [List.getElem?_set_self hi] at h2
      cases h2
      exact ⟨vs, upd_same, x.rws r q⟩
    · rw [List.getElem?_set_ne (Ne.symm e)] at h2
      obtain ⟨us', e1, q1⟩ := r.at_ i b us h1 h2
      refine ⟨us', ?_, x.rws r q1⟩
      rw [upd_ne (show b ≠ a from fun z => e (nodup_get r.nd h1 (by rw [z]; exact h)))]
      exact e1
  · obtain ⟨us, e⟩ := r.ex b hb
    exact ⟨us, by rw [upd_ne (show b ≠ a from fun z => r.apart b hb (by rw [z]; exact List.mem_of_getElem? h))]; exact e⟩
theorem RE.set (re : RE K α ξ H σ δ) (i : Nat) (h : RW K α ξ H v w) : RE K α ξ H (σ.set i (some v)) (δ.set i (some w)) := by
  refine ⟨by simp [re.1], fun j u e => ?_⟩
  by_cases hj : i = j
  · subst hj
    have hi : i < δ.length := by
      have := (List.getElem?_eq_some_iff.mp e).1
      simpa using this
    rw [List.getElem?_set_self hi] at e
    cases e
    exact ⟨v, by rw [List.getElem?_set_self (by rw [re.1]; exact hi)], h⟩
  · rw [List.getElem?_set_ne hj] at e
    obtain ⟨u', q, z⟩ := re.2 j u e
    exact ⟨u', by rw [List.getElem?_set_ne hj]; exact q, z⟩
theorem RE.wipe (re : RE K α ξ H σ δ) : ∀ vs : List Nat, RE K α ξ H (L2.wipe σ vs) (vs.foldr (fun i d => d.set i none) δ)
  | [] => re
  | n :: vs => by
    have ih := RE.wipe re vs
    refine ⟨by rw [List.foldr_cons, List.length_set, ← ih.1]; show ((L2.wipe σ vs).set n none).length = _; rw [List.length_set], fun j u e => ?_⟩
    rw [List.foldr_cons] at e
    by_cases hj : n = j
    · subst hj
      have hi : n < (vs.foldr (fun i d => d.set i none) δ).length := by
        have := (List.getElem?_eq_some_iff.mp e).1
        simpa using this
      rw [List.getElem?_set_self hi] at e
      cases e
    · rw [List.getElem?_set_ne hj] at e
      obtain ⟨u', q, z⟩ := ih.2 j u e
      exact ⟨u', by show ((L2.wipe σ vs).set n none)[j]? = _; rw [List.getElem?_set_ne hj]; exact q, z⟩
end
/-- the names of a comprehension forgotten -/
def wipeD (δ : DEnv) (vs : List Nat) : DEnv := vs.foldr (fun i d => d.set i none) δ
/-! ### what follows -/
section
variable (K : PySem.W.Frag) (α ξ : List Addr) (H : Hp)
def Post (S' : Sto) (w : Wv) (Q : VK) : Prop := ∀ α' v H', Ext α H α' H' → RS K α' ξ S' H' → RW K α' ξ H' v w → Q v H'
def PostB (S' : Sto) (b : Bool) (Q : Bool → Hp → Prop) : Prop := ∀ α' H', Ext α H α' H' → RS K α' ξ S' H' → Q b H'
def PostA (S' : Sto) (ws : List Wv) (Q : List V → Hp → Prop) : Prop := ∀ α' vs H', Ext α H α' H' → RS K α' ξ S' H' → RWs K α' ξ H' vs ws → Q vs H'
def PostF (S' : Sto) (ws : List Wv) (Q : VK) : Prop := ∀ α' vs H0 p, Ext α H α' H0 → RS K α' ξ S' H0 → H0 p = none → RWs K α' ξ H0 vs ws → Q (.ref p) (upd H0 p (.lst vs))
end
section
variable {K : PySem.W.Frag} {α α' ξ : List Addr} {H H' : Hp} {S S' : Sto} {w : Wv} {b : Bool} {ws : List Wv}
theorem Post.ext {Q : VK} (p : Post K α ξ H S' w Q) (x : Ext α H α' H') : Post K α' ξ H' S' w Q := fun α2 v H2 x2 r q => p α2 v H2 (x.trans x2) r q
theorem PostB.ext {Q : Bool → Hp → Prop} (p : PostB K α ξ H S' b Q) (x : Ext α H α' H') : PostB K α' ξ H' S' b Q := fun α2 H2 x2 r => p α2 H2 (x.trans x2) r
theorem PostA.ext {Q : List V → Hp → Prop} (p : PostA K α ξ H S' ws Q) (x : Ext α H α' H') : PostA K α' ξ H' S' ws Q := fun α2 v H2 x2 r q => p α2 v H2 (x.trans x2) r q
theorem PostF.ext {Q : VK} (p : PostF K α ξ H S' ws Q) (x : Ext α H α' H') : PostF K α' ξ H' S' ws Q := fun α2 vs H2 a x2 r n q => p α2 vs H2 a (x.trans x2) r n q
end
def tD (K : PySem.W.Frag) (m : ME) : TE := fun σ H Q => ∃ α ξ S δ w S', RS K α ξ S H ∧ RE K α ξ H σ δ ∧ m δ S = some (w, S') ∧ Post K α ξ H S' w Q
def tDT (K : PySem.W.Frag) (m : MT) : TT := fun σ H Q => ∃ α ξ S δ b S', RS K α ξ S H ∧ RE K α ξ H σ δ ∧ m δ S = some (b, S') ∧ PostB K α ξ H S' b Q
def tDA (K : PySem.W.Frag) (m : MA) : TA := fun σ H Q => ∃ α ξ S δ ws S', RS K α ξ S H ∧ RE K α ξ H σ δ ∧ m δ S = some (ws, S') ∧ PostA K α ξ H S' ws Q
def tDF (K : PySem.W.Frag) (m : MF) : TE := fun σ H Q => ∃ α ξ S δ ws S', RS K α ξ S H ∧ RE K α ξ H σ δ ∧ m δ S = some (ws, S') ∧ PostF K α ξ H S' ws Q
structure DE (X : Cx) (e : Expr) (m : ME) : Prop where
  run : PE X e (tD X.K m)
structure DT (X : Cx) (e : Expr) (m : MT) : Prop where
  run : PT X e (tDT X.K m)
structure DA (X : Cx) (es : List Expr) (m : MA) : Prop where
  run : PA X es (tDA X.K m)
/-- a list just made -/
structure DF (X : Cx) (e : Expr) (m : MF) : Prop where
  run : PE X e (tDF X.K m)
section
variable {X : Cx} {e : Expr} {es : List Expr}
theorem peMono {t t' : TE} (h : PE X e t) (k : ∀ σ H Q, t' σ H Q → t σ H Q) : PE X e t' := ⟨fun pins s σ H Q I q => h.run pins s σ H Q I (k σ H Q q)⟩
theorem ptMono {t t' : TT} (h : PT X e t) (k : ∀ σ H Q, t' σ H Q → t σ H Q) : PT X e t' := ⟨fun pins s σ H Q I q => h.run pins s σ H Q I (k σ H Q q)⟩
theorem paMono {t t' : TA} (h : PA X es t) (k : ∀ σ H Q, t' σ H Q → t σ H Q) : PA X es t' := ⟨fun pos pins s σ H Q I q => h.run pos pins s σ H Q I (k σ H Q q)⟩
end
section
variable {K : PySem.W.Frag} {α ξ : List Addr} {H : Hp} {S S1 : Sto} {σ : L2.St} {δ : DEnv}
theorem tD_go {m : ME} {w : Wv} {Q : VK} (r : RS K α ξ S H) (re : RE K α ξ H σ δ) (h : m δ S = some (w, S1))
    (k : ∀ α1 v H1, Ext α H α1 H1 → RS K α1 ξ S1 H1 → RW K α1 ξ H1 v w → RE K α1 ξ H1 σ δ → Q v H1) : tD K m σ H Q :=
  ⟨α, ξ, S, δ, w, S1, r, re, h, fun α1 v H1 x r1 q => k α1 v H1 x r1 q (x.re r re)⟩
theorem tDT_go {m : MT} {b : Bool} {Q : Bool → Hp → Prop} (r : RS K α ξ S H) (re : RE K α ξ H σ δ) (h : m δ S = some (b, S1))
    (k : ∀ α1 H1, Ext α H α1 H1 → RS K α1 ξ S1 H1 → RE K α1 ξ H1 σ δ → Q b H1) : tDT K m σ H Q :=
  ⟨α, ξ, S, δ, b, S1, r, re, h, fun α1 H1 x r1 => k α1 H1 x r1 (x.re r re)⟩
theorem tDA_go {m : MA} {ws : List Wv} {Q : List V → Hp → Prop} (r : RS K α ξ S H) (re : RE K α ξ H σ δ) (h : m δ S = some (ws, S1))
    (k : ∀ α1 vs H1, Ext α H α1 H1 → RS K α1 ξ S1 H1 → RWs K α1 ξ H1 vs ws → RE K α1 ξ H1 σ δ → Q vs H1) : tDA K m σ H Q :=
  ⟨α, ξ, S, δ, ws, S1, r, re, h, fun α1 v H1 x r1 q => k α1 v H1 x r1 q (x.re r re)⟩
theorem tDF_go {m : MF} {ws : List Wv} {Q : VK} (r : RS K α ξ S H) (re : RE K α ξ H σ δ) (h : m δ S = some (ws, S1))
    (k : ∀ α1 vs H0 p, Ext α H α1 H0 → RS K α1 ξ S1 H0 → H0 p = none → RWs K α1 ξ H0 vs ws → RE K α1 ξ H0 σ δ → Q (.ref p) (upd H0 p (.lst vs))) : tDF K m σ H Q :=
  ⟨α, ξ, S, δ, ws, S1, r, re, h, fun α1 vs H0 p x r1 n q => k α1 vs H0 p x r1 n q (x.re r re)⟩
end
/-! ### small expressions -/
def mVar (i : Nat) : ME := fun δ S => match δ[i]? with
  | some (some w) => some (w, S)
  | _ => none
def mC (d : PyData) : ME := fun _ S => some (.d d, S)
def mTy (n : Ty5) : ME := fun _ S => some (.ty n, S)
section
variable {X : Cx} {pos : Pos}
theorem de_var (i : Nat) {x : Str} (hN : X.N[i]? = some x := by rfl) (hv : Vis X.env.scope x := by first | exact Or.inl rfl | exact Or.inr (Or.inl rfl) | exact Or.inr (Or.inr rfl)) (hd : (x == ("__debug__" : Str)) = false := by decide)
    (hcd : (x == ("__classdict__" : Str)) = false := by decide) : DE X (.Name x pos) (mVar i) := by
  refine ⟨peMono (pe_var hN hv hd hcd) fun σ H Q h => ?_⟩
  obtain ⟨α, ξ, S, δ, w, S', r, re, hm, q⟩ := h
  unfold mVar at hm
  cases e : δ[i]? with
  | none => rw [e] at hm; cases hm
  | some o =>
    cases o with
    | none => rw [e] at hm; cases hm
    | some u =>
      rw [e] at hm
      simp only [Option.some.injEq, Prod.mk.injEq] at hm
      obtain ⟨rfl, rfl⟩ := hm
      obtain ⟨v, e1, q1⟩ := re.2 i u e
      exact ⟨v, e1, q α v H Ext.refl r q1⟩
theorem de_const {e : Expr} {v : V} {d : PyData} (h : PE X e (tC v)) (hd : ∀ K M H, RD K M H v d) : DE X e (mC d) := by
  refine ⟨peMono h fun σ H Q h => ?_⟩
  obtain ⟨α, ξ, S, δ, w, S', r, re, hm, q⟩ := h
  unfold mC at hm
  simp only [Option.some.injEq, Prod.mk.injEq] at hm
  obtain ⟨rfl, rfl⟩ := hm
  exact q α v H Ext.refl r (hd _ _ _)
theorem de_int {i j} : DE X (.Constant (.int i) j pos) (mC (.int i)) := de_const pe_int fun _ _ _ => .int i
theorem de_bl {b j} : DE X (.Constant (.bool b) j pos) (mC (.bool b)) := de_const pe_bl fun _ _ _ => .bl b
theorem de_non {j} : DE X (.Constant .none j pos) (mC .none) := de_const pe_non fun _ _ _ => .non
theorem de_str {x j} : DE X (.Constant (.str x) j pos) (mC (.str x)) := de_const pe_str fun _ _ _ => .str x
end
end K15
set_option Elab.async false
set_option linter.all false
set_option maxRecDepth 100000
set_option maxHeartbeats 4000000
set_option autoImplicit false
namespace K15
open PySem PySem.Spec PyProof.Rows L2
/-! ### lists of values as data -/
def toDs : List Wv → Option (List PyData)
  | [] => some []
  | .d x :: r => (toDs r).map (x :: ·)
  | _ :: _ => none
theorem toDs_map : ∀ ds : List PyData, toDs (ds.map .d) = some ds
  | [] => rfl
  | d :: r => by
    show (toDs (r.map .d)).map (d :: ·) = _
    rw [toDs_map r]
    rfl
theorem toDs_eq : ∀ {ws : List Wv} {ds : List PyData}, toDs ws = some ds → ws = ds.map .d
  | [], _, h => by cases h; rfl
  | .d x :: r, ds, h => by
    have h1 : (toDs r).map (x :: ·) = some ds := h
    cases e : toDs r with
    | none => rw [e] at h1; cases h1
    | some es =>
      rw [e] at h1
      cases h1
      rw [toDs_eq e]
      rfl
  | .ref _ :: _, _, h => by cases h
  | .ty _ :: _, _, h => by cases h
  | .tys _ :: _, _, h => by cases h
  | .scr _ :: _, _, h => by cases h
section
variable {K : PySem.W.Frag} {α α' ξ : List Addr} {H H' : Hp} {S S' : Sto} {v : V} {w : Wv}
theorem rds_of_rws : ∀ {vs : List V} {ds : List PyData}, RWs K α ξ H vs (ds.map .d) → RDs K (Mb α ξ) H vs ds
  | _, [], h => by cases h; exact .nil
  | _, d :: ds, h => by
    cases h with
    | cons h1 h2 => exact .cons h1 (rds_of_rws h2)
theorem rws_of_rds : ∀ {vs : List V} {ds : List PyData}, RDs K (Mb α ξ) H vs ds → RWs K α ξ H vs (ds.map .d)
  | _, [], h => by cases h; exact .nil
  | _, d :: ds, h => by
    cases h with
    | cons h1 h2 => exact .cons h1 (rws_of_rds h2)
/-- what may be read as a list -/
def rdM (S : Sto) : Wv → Option (List Wv)
  | .ref n => S[n]?
  | .d (.list ds) => some (ds.map .d)
  | _ => none
def rdL (S : Sto) : Wv → Option (List Wv)
  | .scr ns => some (ns.map fun i => .d (.int i))
  | w => rdM S w
theorem rdM_ok (r : RS K α ξ S H) (h : RW K α ξ H v w) {ws : List Wv} (e : rdM S w = some ws) : ∃ a vs, v = .ref a ∧ H a = some (.lst vs) ∧ RWs K α ξ H vs ws := by
  cases w with
  | ref n =>
    obtain ⟨a, rfl, q⟩ := h
    obtain ⟨vs, h1, h2⟩ := r.at_ n a ws q e
    exact ⟨a, vs, rfl, h1, h2⟩
  | d x =>
    cases x with
    | list ds =>
      cases e
      cases h with
      | lst h1 h2 h3 => exact ⟨_, _, rfl, h1, rws_of_rds h3⟩
    | _ => cases e
  | _ => cases e
theorem ints_rws : ∀ ns : List Int, RWs K α ξ H (ns.map V.int) (ns.map fun i => .d (.int i))
  | [] => .nil
  | n :: ns => .cons (RD.int n) (ints_rws ns)
theorem rdL_ok (r : RS K α ξ S H) (h : RW K α ξ H v w) {ws : List Wv} (e : rdL S w = some ws) : ∃ a vs, v = .ref a ∧ SqL K H a vs ∧ RWs K α ξ H vs ws := by
  cases w with
  | scr ns =>
    cases e
    obtain ⟨a, rfl, q⟩ := h
    refine ⟨a, _, rfl, ?_, ints_rws ns⟩
    rcases q with ⟨q, _⟩ | ⟨o, q⟩ | q
    · exact .inl (.inl q)
    · exact .inl (.inr ⟨o, q⟩)
    · exact q H
  | _ =>
    obtain ⟨a, vs, h1, h2, h3⟩ := rdM_ok r h e
    exact ⟨a, vs, h1, SqL.of h2, h3⟩
def rdT : Wv → Option (List PyData)
  | .d (.tuple ds) => some ds
  | _ => none
theorem rdT_ok (h : RW K α ξ H v w) {ds : List PyData} (e : rdT w = some ds) : ∃ a vs, v = .ref a ∧ SqT K H a vs ∧ RDs K (Mb α ξ) H vs ds := by
  cases w with
  | d x =>
    cases x with
    | tuple ds' =>
      cases e
      cases h with
      | tup h1 h2 => exact ⟨_, _, rfl, h1, h2⟩
    | _ => cases e
  | _ => cases e
/-- a new tuple -/
theorem post_tup {ds : List PyData} {vs : List V} {Q : VK} (r : RS K α ξ S H) (q : Post K α ξ H S (.d (.tuple ds)) Q) (h : RDs K (Mb α ξ) H vs ds) {p : Addr} (hp : H p = none) : Q (.ref p) (upd H p (.tup vs)) := by
  have x : Ext α H α (upd H p (.tup vs)) := ext_new hp
  refine q α _ _ x (r.new hp) ?_
  exact RD.tup (SqT.of upd_same) (RDs.mono (fun c vs h1 h2 => ⟨x.keep c _ h1 fun m => h2 (.inl m), h2⟩) (fun c vs h => x.tup r h) ds vs h)
/-- a new list of data -/
theorem post_lst {ds : List PyData} {vs : List V} {Q : VK} (r : RS K α ξ S H) (q : Post K α ξ H S (.d (.list ds)) Q) (h : RDs K (Mb α ξ) H vs ds) {p : Addr} (hp : H p = none) : Q (.ref p) (upd H p (.lst vs)) := by
  have x : Ext α H α (upd H p (.lst vs)) := ext_new hp
  refine q α _ _ x (r.new hp) ?_
  exact RD.lst upd_same (r.nnone hp) (RDs.mono (fun c vs h1 h2 => ⟨x.keep c _ h1 fun m => h2 (.inl m), h2⟩) (fun c vs h => x.tup r h) ds vs h)
end
/-! ### two-place operations -/
abbrev F2 := Wv → Wv → Sto → Option (Wv × Sto)
def Op2 (K : PySem.W.Frag) (r : R2) (f : F2) : Prop := ∀ (α ξ : List Addr) (S : Sto) (H : Hp) (x y : V) (w1 w2 w : Wv) (S' : Sto) (Q : VK), RS K α ξ S H → RW K α ξ H x w1 → RW K α ξ H y w2 → f w1 w2 S = some (w, S') → Post K α ξ H S' w Q → r x y H Q
def mBin (f : F2) (a b : ME) : ME := fun δ S => (a δ S).bind fun p => (b δ p.2).bind fun q => f p.1 q.1 q.2
section
variable {X : Cx} {a b : Expr} {ma mb : ME} {pos : Pos} {r : R2} {f : F2}
theorem bind_some {α β : Type} {o : Option α} {g : α → Option β} {b : β} (h : o.bind g = some b) : ∃ a, o = some a ∧ g a = some b := Option.bind_eq_some_iff.mp h
theorem tOp_of (hf : Op2 X.K r f) {σ : L2.St} {H : Hp} {Q : VK} (h : tD X.K (mBin f ma mb) σ H Q) : tOp r (tD X.K ma) (tD X.K mb) σ H Q := by
  obtain ⟨α, ξ, S, δ, w, S', rs, re, hm, q⟩ := h
  obtain ⟨⟨w1, S1⟩, e1, hm⟩ := bind_some hm
  obtain ⟨⟨w2, S2⟩, e2, hm⟩ := bind_some hm
  refine tD_go rs re e1 fun α1 v1 H1 x1 r1 q1 re1 => ?_
  refine tD_go r1 re1 e2 fun α2 v2 H2 x2 r2 q2 re2 => ?_
  exact hf α2 ξ S2 H2 v1 v2 w1 w2 w S' Q r2 (x2.rw r1 q1) q2 hm (q.ext (x1.trans x2))
theorem de_bin {op : Operator} (ho : OpR X (binaryOp op) r) (hf : Op2 X.K r f) (ha : DE X a ma) (hb : DE X b mb) : DE X (.BinOp a op b pos) (mBin f ma mb) :=
  ⟨peMono (pe_op ho ha.run hb.run) fun _ _ _ h => tOp_of hf h⟩
theorem de_cmp {op : CmpOp} (ho : OpR X (compareOp op) r) (hf : Op2 X.K r f) (ha : DE X a ma) (hb : DE X b mb) (hm : behindInMarks op b = false) : DE X (.Compare a [op] [b] pos) (mBin f ma mb) :=
  ⟨peMono (pe_cmpR ho ha.run hb.run hm) fun _ _ _ h => tOp_of hf h⟩
/-- a value's truth, a bool -/
def mTst (m : ME) : MT := fun δ S => (m δ S).bind fun p => match p.1 with
  | .d (.bool b) => some (b, p.2)
  | _ => none
theorem tst_some {m : ME} {δ : DEnv} {S S' : Sto} {b : Bool} (h : mTst m δ S = some (b, S')) : m δ S = some (.d (.bool b), S') := by
  obtain ⟨⟨w, S1⟩, e, h⟩ := bind_some h
  cases w with
  | d x =>
    cases x with
    | bool c =>
      have h2 : some (c, S1) = some (b, S') := h
      cases h2
      exact e
    | _ => cases h
  | _ => cases h
theorem tTest_of {K : PySem.W.Frag} {m : ME} {σ : L2.St} {H : Hp} {Q : Bool → Hp → Prop} {t : TE} (ht : ∀ (Q : VK), tD K m σ H Q → t σ H Q) (h : tDT K (mTst m) σ H Q) : tTest t σ H Q := by
  obtain ⟨α, ξ, S, δ, b, S', rs, re, hm, q⟩ := h
  refine ht _ (tD_go rs re (tst_some hm) fun α1 v1 H1 x1 r1 q1 re1 => ?_)
  cases q1
  exact ⟨b, rfl, q α1 H1 x1 r1⟩
theorem dt_cmp {op : CmpOp} (ho : OpR X (compareOp op) r) (hf : Op2 X.K r f) (ha : DE X a ma) (hb : DE X b mb) (hm : behindInMarks op b = false) : DT X (.Compare a [op] [b] pos) (mTst (mBin f ma mb)) :=
  ⟨ptMono (pt_cmpR ho ha.run hb.run hm) fun _ _ _ h => tTest_of (fun _ => tOp_of hf) h⟩
theorem dt_val {e : Expr} {m : ME} (h : DE X e m) (he : ∀ whole, isTrue e X.env whole = (do let v ← whole; standAt e.pos; holding [v] (truthy v)) := by intro _; rfl) : DT X e (mTst m) :=
  ⟨ptMono (pt_val h.run he) fun _ _ _ h => tTest_of (fun _ h => h) h⟩
end
/-! ### the operations -/
def fAdd : F2
  | .d (.int i), .d (.int j), S => some (.d (.int (i + j)), S)
  | .d (.tuple xs), .d (.tuple ys), S => if xs.length + ys.length ≤ 1000000 then some (.d (.tuple (xs ++ ys)), S) else none
  | _, _, _ => none
def fSub : F2
  | .d (.int i), .d (.int j), S => some (.d (.int (i - j)), S)
  | _, _, _ => none
def fMul : F2
  | .d (.int i), .d (.int j), S => if (-(2 ^ 64) < i ∧ i < 2 ^ 64) ∨ (-(2 ^ 64) < j ∧ j < 2 ^ 64) then some (.d (.int (i * j)), S) else none
  | _, _, _ => none
def fDiv : F2
  | .d (.int i), .d (.int j), S => if j ≠ 0 ∧ j.natAbs < 1073741824 then some (.d (.int (i.fdiv j)), S) else none
  | _, _, _ => none
def fMod : F2
  | .d (.int i), .d (.int j), S => if j ≠ 0 then some (.d (.int (i.fmod j)), S) else none
  | _, _, _ => none
def fPow : F2
  | .d (.int i), .d (.int j), S => if 0 ≤ j ∧ j ≤ 1000000 ∧ i.natAbs < 2 ^ 64 then some (.d (.int (i ^ j.toNat)), S) else none
  | _, _, _ => none
def fInt (g : Int → Int → Bool) : F2
  | .d (.int i), .d (.int j), S => some (.d (.bool (g i j)), S)
  | _, _, _ => none
def fLt : F2 := fInt fun i j => decide (i < j)
def fLe : F2 := fInt fun i j => decide (i ≤ j)
def fGt : F2 := fInt fun i j => decide (j < i)
def fGe : F2 := fInt fun i j => decide (j ≤ i)
/-- == of data -/
def fEq : F2
  | .d x, .d y, S => if SeqAt.shaped x && SeqAt.shaped y then some (.d (.bool (PyData.eqv x y)), S) else none
  | _, _, _ => none
def fNe : F2
  | .d x, .d y, S => if SeqAt.shaped x && SeqAt.shaped y then some (.d (.bool (!PyData.eqv x y)), S) else none
  | _, _, _ => none
def isNon : Wv → Bool
  | .d .none => true
  | _ => false
def fIs : F2
  | w, .d .none, S => some (.d (.bool (isNon w)), S)
  | _, _, _ => none
def fIsNot : F2
  | w, .d .none, S => some (.d (.bool (!isNon w)), S)
  | _, _, _ => none
def flatD : PyData → Bool
  | .none | .bool _ | .int _ | .str _ => true
  | _ => false
def sgn (z : Str) (x : Str) : Option Bool := match x.cps.toList with
  | [c] => some (decide (c ∈ z.cps.toList))
  | _ => none
def fInB (neg : Bool) : F2
  | .d x, .d (.list ds), S => if SeqAt.shaped x && SeqAt.shaped (.list ds) then some (.d (.bool (neg ^^ ds.any fun z => PyData.eqv z x)), S) else none
  | .d x, .d (.tuple ds), S => if flatD x && ds.all flatD then some (.d (.bool (neg ^^ ds.any fun z => PyData.eqv z x)), S) else none
  | .d (.str x), .d (.str z), S => (sgn z x).map fun b => (.d (.bool (neg ^^ b)), S)
  | _, _, _ => none
section
variable {X : Cx} {K : PySem.W.Frag}
theorem post_here {α ξ : List Addr} {S S' : Sto} {H : Hp} {w w' : Wv} {v : V} {Q : VK} (r : RS K α ξ S H) (e : some (w', S) = some (w, S')) (q : Post K α ξ H S' w Q) (h : RW K α ξ H v w') : Q v H := by
  cases e
  exact q α v H Ext.refl r h
theorem o_add : Op2 K (fun x y H Q => rI0 (fun i j => .int (i + j)) x y H Q ∨ rCatA K x y H Q) fAdd := by
  intro α ξ S H x y w1 w2 w S' Q r h1 h2 hf q
  unfold fAdd at hf
  split at hf
  · cases h1; cases h2
    exact .inl ⟨_, _, rfl, rfl, post_here r hf q (RD.int _)⟩
  · rename_i xs ys
    split at hf
    · rename_i hz
      cases hf
      obtain ⟨a, vs, rfl, ha, ra⟩ := rdT_ok (ds := xs) h1 rfl
      obtain ⟨b, us, rfl, hb, rb⟩ := rdT_ok (ds := ys) h2 rfl
      refine .inr ⟨a, b, vs, us, rfl, rfl, ha, hb, by rw [ra.length, rb.length, sizeLine_eq]; omega, fun e => ?_, fun e1 e2 => ?_, fun e1 e2 p hp => ?_⟩
      · have : xs = [] := ra.nil_iff.mp e
        subst this
        exact q α _ H Ext.refl r h2
      · have : ys = [] := rb.nil_iff.mp e2
        subst this
        rw [List.append_nil] at q
        exact q α _ H Ext.refl r h1
      · exact post_tup r q (ra.append rb) hp
    · cases hf
  · cases hf
theorem o_sub : Op2 K (rI0 fun i j => .int (i - j)) fSub := by
  intro α ξ S H x y w1 w2 w S' Q r h1 h2 hf q
  unfold fSub at hf
  split at hf
  · cases h1; cases h2
    exact ⟨_, _, rfl, rfl, post_here r hf q (RD.int _)⟩
  · cases hf
theorem o_mul : Op2 K (rI CMul fun i j => .int (i * j)) fMul := by
  intro α ξ S H x y w1 w2 w S' Q r h1 h2 hf q
  unfold fMul at hf
  split at hf
  · split at hf
    · rename_i hc
      cases h1; cases h2
      exact ⟨_, _, rfl, rfl, hc, post_here r hf q (RD.int _)⟩
    · cases hf
  · cases hf
theorem o_div : Op2 K (rI CDivN fun i j => .int (i.fdiv j)) fDiv := by
  intro α ξ S H x y w1 w2 w S' Q r h1 h2 hf q
  unfold fDiv at hf
  split at hf
  · split at hf
    · rename_i hc
      cases h1; cases h2
      exact ⟨_, _, rfl, rfl, hc, post_here r hf q (RD.int _)⟩
    · cases hf
  · cases hf
theorem o_mod : Op2 K (rI (fun _ j => j ≠ 0) fun i j => .int (i.fmod j)) fMod := by
  intro α ξ S H x y w1 w2 w S' Q r h1 h2 hf q
  unfold fMod at hf
  split at hf
  · split at hf
    · rename_i hc
      cases h1; cases h2
      exact ⟨_, _, rfl, rfl, hc, post_here r hf q (RD.int _)⟩
    · cases hf
  · cases hf
theorem o_pow : Op2 K (rI CPow fun i j => .int (i ^ j.toNat)) fPow := by
  intro α ξ S H x y w1 w2 w S' Q r h1 h2 hf q
  unfold fPow at hf
  split at hf
  · split at hf
    · rename_i hc
      cases h1; cases h2
      exact ⟨_, _, rfl, rfl, hc, post_here r hf q (RD.int _)⟩
    · cases hf
  · cases hf
theorem o_int {g : Int → Int → Bool} : Op2 K (rI0 fun i j => .bl (g i j)) (fInt g) := by
  intro α ξ S H x y w1 w2 w S' Q r h1 h2 hf q
  unfold fInt at hf
  split at hf
  · cases h1; cases h2
    exact ⟨_, _, rfl, rfl, post_here r hf q (RD.bl _)⟩
  · cases hf
theorem o_eq : Op2 K (rEqD K) fEq := by
  intro α ξ S H x y w1 w2 w S' Q r h1 h2 hf q
  unfold fEq at hf
  split at hf
  · split at hf
    · rename_i hs
      obtain ⟨s1, s2⟩ := Bool.and_eq_true_iff.mp hs
      exact ⟨_, _, RD.dp _ _ h1, RD.dp _ _ h2, s1, s2, post_here r hf q (RD.bl _)⟩
    · cases hf
  · cases hf
theorem o_ne : Op2 K (rNeD K) fNe := by
  intro α ξ S H x y w1 w2 w S' Q r h1 h2 hf q
  unfold fNe at hf
  split at hf
  · split at hf
    · rename_i hs
      obtain ⟨s1, s2⟩ := Bool.and_eq_true_iff.mp hs
      exact ⟨_, _, RD.dp _ _ h1, RD.dp _ _ h2, s1, s2, post_here r hf q (RD.bl _)⟩
    · cases hf
  · cases hf
theorem isNon_ok {α ξ : List Addr} {H : Hp} {v : V} {w : Wv} (h : RW K α ξ H v w) : decide (v = .non) = isNon w := by
  cases w with
  | d x =>
    cases h <;> first | rfl | exact decide_eq_false (by intro z; cases z)
  | ref n => obtain ⟨a, rfl, _⟩ := h; exact decide_eq_false (by intro z; cases z)
  | ty n => cases (show v = .ty n.name from h); exact decide_eq_false (by intro z; cases z)
  | tys ns => obtain ⟨a, rfl, _⟩ := h; exact decide_eq_false (by intro z; cases z)
  | scr ns => obtain ⟨a, rfl, _⟩ := h; exact decide_eq_false (by intro z; cases z)
theorem o_is : Op2 K (fun x y H Q => y = .non ∧ Q (.bl (decide (x = .non))) H) fIs := by
  intro α ξ S H x y w1 w2 w S' Q r h1 h2 hf q
  unfold fIs at hf
  split at hf
  · cases h2
    refine ⟨rfl, ?_⟩
    rw [isNon_ok h1]
    exact post_here r hf q (RD.bl _)
  · cases hf
theorem o_isnot : Op2 K (fun x y H Q => y = .non ∧ Q (.bl (!decide (x = .non))) H) fIsNot := by
  intro α ξ S H x y w1 w2 w S' Q r h1 h2 hf q
  unfold fIsNot at hf
  split at hf
  · cases h2
    refine ⟨rfl, ?_⟩
    rw [isNon_ok h1]
    exact post_here r hf q (RD.bl _)
  · cases hf
theorem flatD_ok {M : Addr → Prop} {H : Hp} {v : V} {d : PyData} (h : RD K M H v d) (f : flatD d = true) : flatV v = true := by
  cases h <;> first | rfl | cases f
theorem eqv_flat {M : Addr → Prop} {H : Hp} {v u : V} {d e : PyData} (h : RD K M H v d) (h2 : RD K M H u e) (f : flatD d = true) (f2 : flatD e = true) : eqV v u = PyData.eqv d e := by
  cases h <;> cases h2 <;> first | (cases f; done) | (cases f2; done) | (simp [eqV, PyData.eqv]; done)
theorem flats_ok {M : Addr → Prop} {H : Hp} : ∀ {vs : List V} {ds : List PyData}, RDs K M H vs ds → ds.all flatD = true → vs.all flatV = true
  | _, _, .nil, _ => rfl
  | _, _, .cons h t, f => by
    rw [List.all_cons, Bool.and_eq_true] at f ⊢
    exact ⟨flatD_ok h f.1, flats_ok t f.2⟩
theorem inV_ok {M : Addr → Prop} {H : Hp} {v : V} {d : PyData} (h : RD K M H v d) (f : flatD d = true) : ∀ {vs : List V} {ds : List PyData}, RDs K M H vs ds → ds.all flatD = true → inV v vs = ds.any fun z => PyData.eqv z d
  | _, _, .nil, _ => rfl
  | _, _, .cons h1 t, f2 => by
    rw [List.all_cons, Bool.and_eq_true] at f2
    have ih := inV_ok h f t f2.2
    unfold inV at ih ⊢
    rw [List.any_cons, List.any_cons, ih, eqv_flat h1 h f2.1 f]
def rInB (K : PySem.W.Frag) (neg : Bool) : R2 := fun x y H Q => (if neg then rNotInD K x y H Q else rInD K x y H Q) ∨ rIn K neg x y H Q ∨ ∃ (c : Nat) (z : Str), x = .str ⟨#[c]⟩ ∧ y = .str z ∧ Q (.bl (neg ^^ decide (c ∈ z.cps.toList))) H
theorem op_inB (hu : X.A.units + 65 < cLine) : OpR X (compareOp .In) (rInB X.K false) := by
  intro pins s σ H x y v u Q I rx ry h
  rcases h with h | h | h
  · exact op_inD hu pins s σ H x y v u Q I rx ry h
  · exact op_in_seq pins s σ H x y v u Q I rx ry h
  · obtain ⟨c, z, h1, h2, q⟩ := h
    exact op_in_sign pins s σ H x y v u Q I rx ry ⟨c, z, h1, h2, by simpa using q⟩
theorem op_notInB (hu : X.A.units + 65 < cLine) : OpR X (compareOp .NotIn) (rInB X.K true) := by
  intro pins s σ H x y v u Q I rx ry h
  rcases h with h | h | h
  · exact op_notInD hu pins s σ H x y v u Q I rx ry h
  · exact op_notIn_seq pins s σ H x y v u Q I rx ry h
  · obtain ⟨c, z, h1, h2, q⟩ := h
    exact op_notIn_sign pins s σ H x y v u Q I rx ry ⟨c, z, h1, h2, by simpa using q⟩
theorem o_in (neg : Bool) : Op2 K (rInB K neg) (fInB neg) := by
  intro α ξ S H x y w1 w2 w S' Q r h1 h2 hf q
  unfold fInB at hf
  split at hf
  · rename_i d ds
    split at hf
    · rename_i hs
      obtain ⟨s1, s2⟩ := Bool.and_eq_true_iff.mp hs
      refine .inl ?_
      cases neg with
      | false =>
        have hf' : some (Wv.d (.bool (ds.any fun z => PyData.eqv z d)), S) = some (w, S') := by simpa using hf
        exact ⟨_, _, RD.dp _ _ h1, RD.dp _ _ h2, s1, s2, post_here r hf' q (RD.bl _)⟩
      | true =>
        have hf' : some (Wv.d (.bool (!ds.any fun z => PyData.eqv z d)), S) = some (w, S') := by simpa using hf
        exact ⟨_, _, RD.dp _ _ h1, RD.dp _ _ h2, s1, s2, post_here r hf' q (RD.bl _)⟩
    · cases hf
  · rename_i d ds
    split at hf
    · rename_i hs
      obtain ⟨s1, s2⟩ := Bool.and_eq_true_iff.mp hs
      obtain ⟨a, vs, rfl, ha, ra⟩ := rdT_ok (ds := ds) h2 rfl
      refine .inr (.inl ⟨a, vs, rfl, .inr ha, flatD_ok h1 s1, flats_ok ra s2, ?_⟩)
      rw [inV_ok h1 s1 ra s2]
      cases neg with
      | false =>
        have hf' : some (Wv.d (.bool (ds.any fun z => PyData.eqv z d)), S) = some (w, S') := by simpa using hf
        exact post_here r hf' q (RD.bl _)
      | true =>
        have hf' : some (Wv.d (.bool (!ds.any fun z => PyData.eqv z d)), S) = some (w, S') := by simpa using hf
        exact post_here r hf' q (RD.bl _)
    · cases hf
  · rename_i x' z
    unfold sgn at hf
    split at hf
    · rename_i c hc
      cases h1; cases h2
      have e : x' = ⟨#[c]⟩ := by
        obtain ⟨⟨l⟩⟩ := x'
        simp only at hc
        rw [hc]
      refine .inr (.inr ⟨c, z, by rw [e], rfl, post_here r hf q (RD.bl _)⟩)
    · cases hf
  · cases hf
end
end K15
set_option Elab.async false
set_option linter.all false
set_option maxRecDepth 100000
set_option maxHeartbeats 4000000
set_option autoImplicit false
namespace K15
open PySem PySem.Spec PyProof.Rows L2
/-- t * 1, t not empty: t itself -/
theorem tuple_mul1 (l : Addr) (items : Array Value) (n : Nat) (dd : Option Addr) (sl : Array (Option Value)) (u : Tok) :
    Meets (Builtin.«tuple.__mul__» ⟨[.ref l, .int 1 u], []⟩) (fun _ R s => s.heap.get? l = some { cls := .type "tuple", dict := dd, data := .seq items n, slots := sl } ∧ R (.ok (.ret (Value.ref l))) s) :=
  .of_wp fun prog w A R s h => by
    obtain ⟨hp, g, d, tk, os⟩ := s
    obtain ⟨hl, h⟩ := h
    have f1 := AutoSeq1.idx_int
    have c0 : (decide ((1 : Int) < -(2 ^ 63)) || decide ((1 : Int) ≥ 2 ^ 63)) = false := by decide
    have c1 : (items.isEmpty || ((1 : Int) == 1)) = true := by simp
    wp_walk using wpAny_loadPart' hl
    repeat (first
      | (refine wpAny_ite_false (decide_eq_false (by rw [c0]; exact Bool.false_ne_true)) ?_; wp_walk using wpAny_loadPart' hl)
      | (refine wpAny_ite_true (decide_eq_true c1) ?_; wp_walk using wpAny_loadPart' hl))
    all_goals first | exact ⟨_, rfl, h⟩ | exact h
theorem tuple_mul0 (l : Addr) (items : Array Value) (n : Nat) (dd : Option Addr) (sl : Array (Option Value)) (u : Tok) (hne : items.isEmpty = false) :
    Meets (Builtin.«tuple.__mul__» ⟨[.ref l, .int 0 u], []⟩) (fun _ R s => s.heap.get? l = some { cls := .type "tuple", dict := dd, data := .seq items n, slots := sl } ∧
      R (.ok (.ret (Value.ref s.heap.objs.size))) { s with heap := s.heap.push { cls := Value.type "tuple", data := Data.seq #[] }, toks := s.toks }) :=
  .of_wp fun prog w A R s h => by
    obtain ⟨hp, g, d, tk, os⟩ := s
    obtain ⟨hl, h⟩ := h
    have f1 := AutoSeq1.idx_int
    have c0 : (decide ((0 : Int) < -(2 ^ 63)) || decide ((0 : Int) ≥ 2 ^ 63)) = false := by decide
    have c1 : (items.isEmpty || ((0 : Int) == 1)) = false := by rw [hne]; rfl
    have c2 : (decide ((0 : Int) ≤ 0) || items.isEmpty) = true := by simp
    wp_walk using wpAny_loadPart' hl
    repeat (first
      | (refine wpAny_ite_false (decide_eq_false (by rw [c0]; exact Bool.false_ne_true)) ?_; wp_walk using wpAny_loadPart' hl)
      | (refine wpAny_ite_false (decide_eq_false (by rw [c1]; exact Bool.false_ne_true)) ?_; wp_walk using wpAny_loadPart' hl)
      | (refine wpAny_ite_true (decide_eq_true c2) ?_; wp_walk using wpAny_loadPart' hl))
    all_goals first | exact ⟨_, rfl, h⟩ | exact h
end K15
set_option Elab.async false
set_option linter.all false
set_option maxRecDepth 100000
set_option maxHeartbeats 4000000
set_option autoImplicit false
namespace K15
open PySem PySem.Spec PyProof.Rows L2
/-! ### tuple * int -/
def rMulT (K : PySem.W.Frag) : R2 := fun x y H Q => ∃ l k xs, x = .ref l ∧ y = .int k ∧ SqT K H l xs ∧ xs ≠ [] ∧ 0 ≤ k ∧ k ≤ 1000 ∧ xs.length ≤ 1000 ∧ (k = 1 → Q (.ref l) H) ∧ (k ≠ 1 → ∀ p, H p = none → Q (.ref p) (upd H p (.tup (List.replicate k.toNat xs).flatten)))
section
variable {X : Cx}
theorem op_mulT : OpR X (binaryOp .Mult) (rMulT X.K) := by
  intro pins s σ H x y v u Q I rx ry h
  obtain ⟨l, k, xs, rfl, rfl, hT, hne, h1, h2, hz, q1, q2⟩ := h
  by_cases hk : 2 ≤ k
  · exact op_repT pins s σ H _ _ v u Q I rx ry ⟨l, k, xs, rfl, rfl, hT, hne, hk, h2, hz, q2 (by omega)⟩
  · have ev : v = Value.ref l := rx
    subst ev
    obtain ⟨t, rfl⟩ := ry
    obtain ⟨its, r, ⟨⟨cls, dd, data, sl⟩, ho, hc, n, hd⟩, hs⟩ := I.tuple hT
    simp only at hc hd
    subst hc hd
    have hle : its.length = xs.length := r.length.symm
    have hn : its ≠ [] := fun e => hne (by
      rw [e] at hle
      exact List.eq_nil_of_length_eq_zero hle.symm)
    have hi : its.toArray.isEmpty = false := by
      cases its with
      | nil => exact absurd rfl hn
      | cons a b => rfl
    rcases (show k = 0 ∨ k = 1 by omega) with rfl | rfl
    · refine wpAny_binaryOp_repeat_ref (T := "tuple") (U := "int") (by decide) ⟨_, ho, rfl⟩ (fun s' => typeIs_int s' 0 t) noFill_tuple_mul F.fills_int_mul F.slot_int_rmul repeat_tuple F.slot_int_index.lookup
        (call_meets F.slot_int_rmul (typeIs_int s 0 t) F.entry_int_rmul (F.args_int_rmul_2 _ _) (int_rmul_tuple 0 t l its.toArray n dd sl)
          ⟨ho, rfl, ⟨_, ho, rfl⟩, call_meets F.slot_tuple_mul ⟨_, ho, rfl⟩ F.entry_tuple_mul (F.args_tuple_mul_2 _ _) (tuple_mul0 l its.toArray n dd sl t hi) ⟨ho, ?_⟩⟩)
      have q := q2 (by decide) _ (I.hok.fresh (Nat.le_refl _))
      refine ⟨.ref s.heap.objs.size, _, I.laid (t' := s.toks) (o := .tup []) (fun b ob q => Heap.get?_push_of_some _ q) (Nat.le_refl _) ?_, rfl, q⟩
      exact ⟨Nat.zero_le _, [], .nil, IsTup.new _ _⟩
    · refine wpAny_binaryOp_repeat_ref (T := "tuple") (U := "int") (by decide) ⟨_, ho, rfl⟩ (fun s' => typeIs_int s' 1 t) noFill_tuple_mul F.fills_int_mul F.slot_int_rmul repeat_tuple F.slot_int_index.lookup
        (call_meets F.slot_int_rmul (typeIs_int s 1 t) F.entry_int_rmul (F.args_int_rmul_2 _ _) (int_rmul_tuple 1 t l its.toArray n dd sl)
          ⟨ho, rfl, ⟨_, ho, rfl⟩, call_meets F.slot_tuple_mul ⟨_, ho, rfl⟩ F.entry_tuple_mul (F.args_tuple_mul_2 _ _) (tuple_mul1 l its.toArray n dd sl t) ⟨ho, ?_⟩⟩)
      exact ⟨.ref l, H, I, rfl, q1 rfl⟩
end
def fMulA : F2
  | .d (.tuple xs), .d (.int k), S => if xs ≠ [] ∧ 0 ≤ k ∧ k ≤ 1000 ∧ xs.length ≤ 1000 then some (.d (.tuple (List.replicate k.toNat xs).flatten), S) else none
  | .d (.int i), .d (.int j), S => if (-(2 ^ 64) < i ∧ i < 2 ^ 64) ∨ (-(2 ^ 64) < j ∧ j < 2 ^ 64) then some (.d (.int (i * j)), S) else none
  | _, _, _ => none
section
variable {X : Cx} {K : PySem.W.Frag}
theorem o_mulA : Op2 K (fun x y H Q => rI CMul (fun i j => .int (i * j)) x y H Q ∨ rMulT K x y H Q) fMulA := by
  intro α ξ S H x y w1 w2 w S' Q r h1 h2 hf q
  unfold fMulA at hf
  split at hf
  · rename_i xs k
    split at hf
    · rename_i hc
      obtain ⟨c1, c2, c3, c4⟩ := hc
      have h2' : RD K (Mb α ξ) H y (.int k) := h2
      cases h2'
      obtain ⟨a, vs, rfl, ha, ra⟩ := rdT_ok (ds := xs) h1 rfl
      refine .inr ⟨a, k, vs, rfl, rfl, ha, fun e => c1 (ra.nil_iff.mp e), c2, c3, by rw [ra.length]; exact c4, fun e => ?_, fun e p hp => ?_⟩
      · subst e
        have e1 : (List.replicate (1 : Int).toNat xs).flatten = xs := by simp
        rw [e1] at hf
        exact post_here r hf q h1
      · cases hf
        exact post_tup r q (ra.rep _) hp
    · cases hf
  · split at hf
    · rename_i hc
      cases h1; cases h2
      exact .inl ⟨_, _, rfl, rfl, hc, post_here r hf q (RD.int _)⟩
    · cases hf
  · cases hf
end
/-! ### and, or, not, if, chains, unary -/
structure DW (X : Cx) (e : Expr) (m : MT) : Prop where
  run : PW X e (tDT X.K m)
def mAnd (a b : ME) : ME := fun δ S => (a δ S).bind fun p => match p.1 with
  | .d (.bool true) => b δ p.2
  | .d (.bool false) => some (.d (.bool false), p.2)
  | _ => none
def mOr (a b : ME) : ME := fun δ S => (a δ S).bind fun p => match p.1 with
  | .d (.bool true) => some (.d (.bool true), p.2)
  | .d (.bool false) => b δ p.2
  | _ => none
/-- x or y by the truth of a list -/
def mOrL (a b : ME) : ME := fun δ S => (a δ S).bind fun p => (rdL p.2 p.1).bind fun ws => if ws.isEmpty then b δ p.2 else some p
def mNot (a : ME) : ME := fun δ S => (a δ S).bind fun p => match p.1 with
  | .d (.bool b) => some (.d (.bool !b), p.2)
  | _ => none
def mIf (c : MT) (a b : ME) : ME := fun δ S => (c δ S).bind fun p => if p.1 then a δ p.2 else b δ p.2
def mtAnd (a b : MT) : MT := fun δ S => (a δ S).bind fun p => if p.1 then b δ p.2 else some (false, p.2)
def mtOr (a b : MT) : MT := fun δ S => (a δ S).bind fun p => if p.1 then some (true, p.2) else b δ p.2
def mtNot (a : MT) : MT := fun δ S => (a δ S).bind fun p => some (!p.1, p.2)
def mNeg (a : ME) : ME := fun δ S => (a δ S).bind fun p => match p.1 with
  | .d (.int i) => some (.d (.int (-i)), p.2)
  | _ => none
def mChain (f g : F2) (a b c : ME) : ME := fun δ S => (a δ S).bind fun p => (b δ p.2).bind fun q => (f p.1 q.1 q.2).bind fun k => match k.1 with
  | .d (.bool true) => (c δ k.2).bind fun z => g q.1 z.1 z.2
  | .d (.bool false) => some (.d (.bool false), k.2)
  | _ => none
section
variable {X : Cx} {a b c : Expr} {ma mb mc : ME} {ta tb tc : MT} {pos : Pos} {rest : List Expr}
theorem iteTF {P Q R : Prop} {b : Bool} (h : b = true → P) (h2 : b = false → R) : if b = true then P else R := by
  cases b with
  | true => rw [if_pos rfl]; exact h rfl
  | false => rw [if_neg Bool.false_ne_true]; exact h2 rfl
theorem de_one {op} (h : DE X a ma) : DE X (.BoolOp op [a] pos) ma := ⟨pe_one h.run⟩
theorem bool_w {K : PySem.W.Frag} {α ξ : List Addr} {H : Hp} {v : V} {b : Bool} (h : RW K α ξ H v (.d (.bool b))) : v = .bl b := by cases h; rfl
theorem de_and (ha : DE X a ma) (hb : DE X (.BoolOp .And (b :: rest) pos) mb) : DE X (.BoolOp .And (a :: b :: rest) pos) (mAnd ma mb) := by
  refine ⟨peMono (pe_and ha.run hb.run) fun σ H Q h => ?_⟩
  obtain ⟨α, ξ, S, δ, w, S', rs, re, hm, q⟩ := h
  obtain ⟨⟨w1, S1⟩, e1, hm⟩ := bind_some hm
  refine tD_go rs re e1 fun α1 v1 H1 x1 r1 q1 re1 => ?_
  simp only at hm
  split at hm
  ·
    refine ⟨true, bool_w q1, ?_⟩
    rw [if_pos rfl]
    exact tD_go r1 re1 hm fun α2 v2 H2 x2 r2 q2 _ => q α2 v2 H2 (x1.trans x2) r2 q2
  ·
    refine ⟨false, bool_w q1, ?_⟩
    rw [if_neg Bool.false_ne_true]
    cases hm
    exact q α1 _ H1 x1 r1 (RD.bl false)
  · cases hm
theorem de_or (ha : DE X a ma) (hb : DE X (.BoolOp .Or (b :: rest) pos) mb) : DE X (.BoolOp .Or (a :: b :: rest) pos) (mOr ma mb) := by
  refine ⟨peMono (pe_or ha.run hb.run) fun σ H Q h => ?_⟩
  obtain ⟨α, ξ, S, δ, w, S', rs, re, hm, q⟩ := h
  obtain ⟨⟨w1, S1⟩, e1, hm⟩ := bind_some hm
  refine tD_go rs re e1 fun α1 v1 H1 x1 r1 q1 re1 => ?_
  simp only at hm
  split at hm
  ·
    refine ⟨true, bool_w q1, ?_⟩
    rw [if_pos rfl]
    cases hm
    exact q α1 _ H1 x1 r1 (RD.bl true)
  ·
    refine ⟨false, bool_w q1, ?_⟩
    rw [if_neg Bool.false_ne_true]
    exact tD_go r1 re1 hm fun α2 v2 H2 x2 r2 q2 _ => q α2 v2 H2 (x1.trans x2) r2 q2
  · cases hm
theorem de_orL (ha : DE X a ma) (hb : DE X (.BoolOp .Or (b :: rest) pos) mb) : DE X (.BoolOp .Or (a :: b :: rest) pos) (mOrL ma mb) := by
  refine ⟨peMono (pe_orT ha.run hb.run) fun σ H Q h => ?_⟩
  obtain ⟨α, ξ, S, δ, w, S', rs, re, hm, q⟩ := h
  obtain ⟨⟨w1, S1⟩, e1, hm⟩ := bind_some hm
  obtain ⟨ws, e2, hm⟩ := bind_some hm
  refine tD_go rs re e1 fun α1 v1 H1 x1 r1 q1 re1 => ?_
  obtain ⟨p, vs, rfl, hs, rv⟩ := rdL_ok r1 q1 e2
  have hl := rv.length
  simp only at hm
  refine ⟨!vs.isEmpty, .inl ⟨vs, hs, rfl⟩, ?_⟩
  have ee : vs.isEmpty = ws.isEmpty := by cases rv <;> rfl
  rw [ee]
  cases hw : ws.isEmpty with
  | true =>
    rw [hw, if_pos rfl] at hm
    rw [if_neg (by decide)]
    exact tD_go r1 re1 hm fun α2 v2 H2 x2 r2 q2 _ => q α2 v2 H2 (x1.trans x2) r2 q2
  | false =>
    rw [hw, if_neg Bool.false_ne_true] at hm
    rw [if_pos (by decide)]
    cases hm
    exact q α1 _ H1 x1 r1 q1
theorem de_not (ha : DE X a ma) : DE X (.UnaryOp .Not a pos) (mNot ma) := by
  refine ⟨peMono (pe_not ha.run) fun σ H Q h => ?_⟩
  obtain ⟨α, ξ, S, δ, w, S', rs, re, hm, q⟩ := h
  obtain ⟨⟨w1, S1⟩, e1, hm⟩ := bind_some hm
  refine tD_go rs re e1 fun α1 v1 H1 x1 r1 q1 re1 => ?_
  simp only at hm
  split at hm
  · rename_i b'
    cases hm
    exact ⟨b', bool_w q1, q α1 _ H1 x1 r1 (RD.bl _)⟩
  · cases hm
theorem dt_not (ha : DT X a ta) : DT X (.UnaryOp .Not a pos) (mtNot ta) := by
  refine ⟨ptMono (pt_not ha.run) fun σ H Q h => ?_⟩
  obtain ⟨α, ξ, S, δ, b, S', rs, re, hm, q⟩ := h
  obtain ⟨⟨b1, S1⟩, e1, hm⟩ := bind_some hm
  cases hm
  exact tDT_go rs re e1 fun α1 H1 x1 r1 _ => q α1 H1 x1 r1
theorem dw_and1 (ha : DT X a ta) : DW X (.BoolOp .And [a] pos) ta := ⟨pw_and1 ha.run⟩
theorem dw_or1 (ha : DT X a ta) : DW X (.BoolOp .Or [a] pos) ta := ⟨pw_or1 ha.run⟩
theorem dw_and (ha : DT X a ta) (hb : DW X (.BoolOp .And (b :: rest) pos) tb) : DW X (.BoolOp .And (a :: b :: rest) pos) (mtAnd ta tb) := by
  refine ⟨⟨fun wh pins s σ H Q I h => (pw_and ha.run hb.run).run wh pins s σ H Q I ?_⟩⟩
  obtain ⟨α, ξ, S, δ, b, S', rs, re, hm, q⟩ := h
  obtain ⟨⟨b1, S1⟩, e1, hm⟩ := bind_some hm
  refine tDT_go rs re e1 fun α1 H1 x1 r1 re1 => ?_
  cases b1 with
  | true =>
    rw [if_pos rfl] at hm ⊢
    exact tDT_go r1 re1 hm fun α2 H2 x2 r2 _ => q α2 H2 (x1.trans x2) r2
  | false =>
    rw [if_neg Bool.false_ne_true] at hm ⊢
    cases hm
    exact q α1 H1 x1 r1
theorem dw_or (ha : DT X a ta) (hb : DW X (.BoolOp .Or (b :: rest) pos) tb) : DW X (.BoolOp .Or (a :: b :: rest) pos) (mtOr ta tb) := by
  refine ⟨⟨fun wh pins s σ H Q I h => (pw_or ha.run hb.run).run wh pins s σ H Q I ?_⟩⟩
  obtain ⟨α, ξ, S, δ, b, S', rs, re, hm, q⟩ := h
  obtain ⟨⟨b1, S1⟩, e1, hm⟩ := bind_some hm
  refine tDT_go rs re e1 fun α1 H1 x1 r1 re1 => ?_
  cases b1 with
  | true =>
    rw [if_pos rfl] at hm ⊢
    cases hm
    exact q α1 H1 x1 r1
  | false =>
    rw [if_neg Bool.false_ne_true] at hm ⊢
    exact tDT_go r1 re1 hm fun α2 H2 x2 r2 _ => q α2 H2 (x1.trans x2) r2
theorem dt_w (h : DW X a ta) : DT X a ta := ⟨h.run.pt⟩
theorem de_if (hc : DT X c tc) (ha : DE X a ma) (hb : DE X b mb) : DE X (.IfExp c a b pos) (mIf tc ma mb) := by
  refine ⟨peMono (pe_ifExp hc.run ha.run hb.run) fun σ H Q h => ?_⟩
  obtain ⟨α, ξ, S, δ, w, S', rs, re, hm, q⟩ := h
  obtain ⟨⟨b1, S1⟩, e1, hm⟩ := bind_some hm
  refine tDT_go rs re e1 fun α1 H1 x1 r1 re1 => ?_
  cases b1 with
  | true =>
    rw [if_pos rfl] at hm ⊢
    exact tD_go r1 re1 hm fun α2 v2 H2 x2 r2 q2 _ => q α2 v2 H2 (x1.trans x2) r2 q2
  | false =>
    rw [if_neg Bool.false_ne_true] at hm ⊢
    exact tD_go r1 re1 hm fun α2 v2 H2 x2 r2 q2 _ => q α2 v2 H2 (x1.trans x2) r2 q2
theorem de_neg (ha : DE X a ma) : DE X (.UnaryOp .USub a pos) (mNeg ma) := by
  refine ⟨peMono (pe_un un_neg ha.run) fun σ H Q h => ?_⟩
  obtain ⟨α, ξ, S, δ, w, S', rs, re, hm, q⟩ := h
  obtain ⟨⟨w1, S1⟩, e1, hm⟩ := bind_some hm
  refine tD_go rs re e1 fun α1 v1 H1 x1 r1 q1 re1 => ?_
  simp only at hm
  split at hm
  · rename_i i
    cases hm
    cases q1
    exact ⟨i, rfl, q α1 _ H1 x1 r1 (RD.int _)⟩
  · cases hm
theorem de_chain {op op' : CmpOp} {r r' : R2} {f g : F2} (ho : OpR X (compareOp op) r) (hf : Op2 X.K r f) (ho' : OpR X (compareOp op') r') (hg : Op2 X.K r' g) (ha : DE X a ma) (hb : DE X b mb) (hc : DE X c mc)
    (hm : lastMarks [op, op'] [b, c] = false := by with_unfolding_all rfl) : DE X (.Compare a [op, op'] [b, c] pos) (mChain f g ma mb mc) := by
  refine ⟨peMono (pe_chain ho ho' ha.run hb.run hc.run hm) fun σ H Q h => ?_⟩
  obtain ⟨α, ξ, S, δ, w, S', rs, re, hm, q⟩ := h
  obtain ⟨⟨w1, S1⟩, e1, hm⟩ := bind_some hm
  obtain ⟨⟨w2, S2⟩, e2, hm⟩ := bind_some hm
  obtain ⟨⟨w3, S3⟩, e3, hm⟩ := bind_some hm
  refine tD_go rs re e1 fun α1 v1 H1 x1 r1 q1 re1 => ?_
  refine tD_go r1 re1 e2 fun α2 v2 H2 x2 r2 q2 re2 => ?_
  refine hf α2 ξ S2 H2 v1 v2 w1 w2 w3 S3 _ r2 (x2.rw r1 q1) q2 e3 fun α3 v3 H3 x3 r3 q3 => ?_
  simp only at hm
  split at hm
  ·
    obtain ⟨⟨w4, S4⟩, e4, hm⟩ := bind_some hm
    refine ⟨true, bool_w q3, ?_⟩
    rw [if_pos rfl]
    refine tD_go r3 (x3.re r2 re2) e4 fun α4 v4 H4 x4 r4 q4 _ => ?_
    exact hg α4 ξ S4 H4 v2 v4 w2 w4 w S' Q r4 ((x3.trans x4).rw r2 q2) q4 hm (q.ext (((x1.trans x2).trans x3).trans x4))
  ·
    refine ⟨false, bool_w q3, ?_⟩
    rw [if_neg Bool.false_ne_true]
    cases hm
    exact q α3 _ H3 ((x1.trans x2).trans x3) r3 (RD.bl false)
  · cases hm
end
end K15
set_option Elab.async false
set_option linter.all false
set_option maxRecDepth 100000
set_option maxHeartbeats 4000000
set_option autoImplicit false
namespace K15
open PySem PySem.Spec PyProof.Rows L2
/-! ### argument lists, displays -/
def mNil : MA := fun _ S => some ([], S)
def mCons (a : ME) (r : MA) : MA := fun δ S => (a δ S).bind fun p => (r δ p.2).bind fun q => some (p.1 :: q.1, q.2)
/-- *a, ..: the items of a tuple -/
def mStar (a : ME) (r : MA) : MA := fun δ S => (a δ S).bind fun p => (rdT p.1).bind fun ds => (r δ p.2).bind fun q => some (ds.map .d ++ q.1, q.2)
def mTup (a : MA) : ME := fun δ S => (a δ S).bind fun p => (toDs p.1).bind fun ds => if ds.length ≤ 1000000 then some (.d (.tuple ds), p.2) else none
def mTys (ns : List Ty5) : ME := fun _ S => some (.tys ns, S)
/-- a list just made: data -/
def mImm (a : MF) : ME := fun δ S => (a δ S).bind fun p => (toDs p.1).map fun ds => (.d (.list ds), p.2)
/-- .. a list of the store -/
def mMut (a : MF) : ME := fun δ S => (a δ S).bind fun p => some (.ref p.2.length, p.2 ++ [p.1])
def mLst (a : MA) : MF := fun δ S => (a δ S).bind fun p => if p.1.length ≤ 1000000 then some p else none
section
variable {X : Cx} {a e : Expr} {es : List Expr} {ma : ME} {mr : MA} {mf : MF} {pos : Pos}
theorem da_nil : DA X [] mNil := by
  refine ⟨paMono pa_nil fun σ H Q h => ?_⟩
  obtain ⟨α, ξ, S, δ, ws, S', rs, re, hm, q⟩ := h
  cases hm
  exact q α [] H Ext.refl rs .nil
theorem da_cons (ha : DE X e ma) (hr : DA X es mr) (hs : starEach (e :: es) X.env = (false, eval e X.env) :: starEach es X.env := by rfl) : DA X (e :: es) (mCons ma mr) := by
  refine ⟨paMono (pa_cons ha.run hr.run hs) fun σ H Q h => ?_⟩
  obtain ⟨α, ξ, S, δ, ws, S', rs, re, hm, q⟩ := h
  obtain ⟨⟨w1, S1⟩, e1, hm⟩ := bind_some hm
  obtain ⟨⟨w2, S2⟩, e2, hm⟩ := bind_some hm
  cases hm
  refine tD_go rs re e1 fun α1 v1 H1 x1 r1 q1 re1 => ?_
  exact tDA_go r1 re1 e2 fun α2 v2 H2 x2 r2 q2 _ => q α2 _ H2 (x1.trans x2) r2 (.cons (x2.rw r1 q1) q2)
theorem da_star {p : Pos} (ha : DE X e ma) (hr : DA X es mr) (hs : starEach (.Starred e p :: es) X.env = (true, eval e X.env) :: starEach es X.env := by rfl) : DA X (.Starred e p :: es) (mStar ma mr) := by
  refine ⟨paMono (StX.pa_star ha.run hr.run hs) fun σ H Q h => ?_⟩
  obtain ⟨α, ξ, S, δ, ws, S', rs, re, hm, q⟩ := h
  obtain ⟨⟨w1, S1⟩, e1, hm⟩ := bind_some hm
  obtain ⟨ds, e3, hm⟩ := bind_some hm
  obtain ⟨⟨w2, S2⟩, e2, hm⟩ := bind_some hm
  cases hm
  refine tD_go rs re e1 fun α1 v1 H1 x1 r1 q1 re1 => ?_
  obtain ⟨c, vs, rfl, ht, rd⟩ := rdT_ok q1 e3
  refine ⟨c, vs, rfl, .inl ht, ?_⟩
  refine tDA_go r1 re1 e2 fun α2 v2 H2 x2 r2 q2 _ => q α2 _ H2 (x1.trans x2) r2 ?_
  have z := x2.rws r1 (rws_of_rds rd)
  have app : ∀ {xs ys : List V} {us zs : List Wv}, RWs X.K α2 ξ H2 xs us → RWs X.K α2 ξ H2 ys zs → RWs X.K α2 ξ H2 (xs ++ ys) (us ++ zs) := by
    intro xs ys us zs h1 h2
    induction h1 with
    | nil => exact h2
    | cons r t ih => exact .cons r ih
  exact app z q2
theorem de_tup {k : Nat} (h : DA X es mr) : DE X (.Tuple es k pos) (mTup mr) := by
  refine ⟨peMono (pe_tup h.run) fun σ H Q h => ?_⟩
  obtain ⟨α, ξ, S, δ, w, S', rs, re, hm, q⟩ := h
  obtain ⟨⟨ws, S1⟩, e1, hm⟩ := bind_some hm
  obtain ⟨ds, e2, hm2⟩ := bind_some hm
  have e3 := toDs_eq e2
  simp only at e3 hm2
  clear hm
  subst e3
  split at hm2
  · rename_i hz
    cases hm2
    refine tDA_go rs re e1 fun α1 vs H1 x1 r1 q1 re1 => ?_
    have rd := rds_of_rws q1
    exact ⟨by rw [rd.length, sizeLine_eq]; omega, fun p hp => post_tup r1 (q.ext x1) rd hp⟩
  · cases hm2
theorem de_ty {x : Str} {n : Ty5} (hg : Gl X x) (hm : X.mg x = none) (hv : bootBuiltins x = some (.type n.name)) (hn : x ≠ "__name__" := by decide) (hd : (x == ("__debug__" : Str)) = false := by decide) : DE X (.Name x pos) (mTy n) := by
  refine ⟨peMono (pe_bltn hg hm hv (v := .ty n.name) rfl hn hd) fun σ H Q h => ?_⟩
  obtain ⟨α, ξ, S, δ, w, S', rs, re, hm, q⟩ := h
  cases hm
  exact q α _ H Ext.refl rs rfl
def toTys : List Wv → Option (List Ty5)
  | [] => some []
  | .ty x :: r => (toTys r).map (x :: ·)
  | _ :: _ => none
def mTupTy (a : MA) : ME := fun δ S => (a δ S).bind fun p => (toTys p.1).bind fun ns => if ns.length ≤ 1000 then some (.tys ns, p.2) else none
theorem tys_rws {K : PySem.W.Frag} {α ξ : List Addr} {H : Hp} : ∀ {vs : List V} {ws : List Wv} {ns : List Ty5}, RWs K α ξ H vs ws → toTys ws = some ns → vs = ns.map fun n => V.ty n.name
  | _, _, _, .nil, e => by cases e; rfl
  | _, w :: ws, ns, .cons r t, e => by
    cases w with
    | ty n =>
      have e1 : (toTys ws).map (n :: ·) = some ns := e
      cases e2 : toTys ws with
      | none => rw [e2] at e1; cases e1
      | some ms =>
        rw [e2] at e1
        cases e1
        rw [tys_rws t e2]
        cases (show _ = V.ty n.name from r)
        rfl
    | _ => cases e
theorem de_tupTy {k : Nat} (h : DA X es mr) : DE X (.Tuple es k pos) (mTupTy mr) := by
  refine ⟨peMono (pe_tup h.run) fun σ H Q h => ?_⟩
  obtain ⟨α, ξ, S, δ, w, S', rs, re, hm, q⟩ := h
  obtain ⟨⟨ws, S1⟩, e1, hm⟩ := bind_some hm
  obtain ⟨ns, e2, hm⟩ := bind_some hm
  simp only at e2 hm
  split at hm
  · rename_i hz
    cases hm
    refine tDA_go rs re e1 fun α1 vs H1 x1 r1 q1 re1 => ?_
    have ev := tys_rws q1 e2
    subst ev
    refine ⟨by rw [List.length_map, sizeLine_eq]; omega, fun p hp => ?_⟩
    exact q α1 _ _ (x1.trans (ext_new hp)) (r1.new hp) ⟨p, rfl, upd_same⟩
  · cases hm
theorem df_lst (h : DA X es mr) : DF X (.List es pos) (mLst mr) := by
  refine ⟨peMono (pe_lst h.run) fun σ H Q h => ?_⟩
  obtain ⟨α, ξ, S, δ, ws, S', rs, re, hm, q⟩ := h
  obtain ⟨⟨ws', S1⟩, e1, hm⟩ := bind_some hm
  simp only at hm
  split at hm
  · rename_i hz
    cases hm
    refine tDA_go rs re e1 fun α1 vs H1 x1 r1 q1 re1 => ?_
    exact ⟨by rw [q1.length, sizeLine_eq]; omega, fun p hp => q α1 vs H1 p x1 r1 hp q1⟩
  · cases hm
theorem de_imm (h : DF X e mf) : DE X e (mImm mf) := by
  refine ⟨peMono h.run fun σ H Q h => ?_⟩
  obtain ⟨α, ξ, S, δ, w, S', rs, re, hm, q⟩ := h
  obtain ⟨⟨ws, S1⟩, e1, hm⟩ := bind_some hm
  cases e2 : toDs ws with
  | none => simp only [e2] at hm; cases hm
  | some ds =>
    simp only [e2] at hm
    cases hm
    have e3 := toDs_eq e2
    subst e3
    exact tDF_go rs re e1 fun α1 vs H0 p x1 r1 hp q1 _ => post_lst r1 (q.ext x1) (rds_of_rws q1) hp
theorem de_mut (h : DF X e mf) : DE X e (mMut mf) := by
  refine ⟨peMono h.run fun σ H Q h => ?_⟩
  obtain ⟨α, ξ, S, δ, w, S', rs, re, hm, q⟩ := h
  obtain ⟨⟨ws, S1⟩, e1, hm⟩ := bind_some hm
  cases hm
  refine tDF_go rs re e1 fun α1 vs H0 p x1 r1 hp q1 _ => ?_
  refine q (α1 ++ [p]) _ _ (x1.trans (ext_loc hp)) (r1.loc hp q1) ⟨p, rfl, ?_⟩
  rw [← r1.len]
  simp
end
/-! ### calls of built-ins -/
abbrev FC := List Wv → Sto → Option (Wv × Sto)
abbrev FF := List Wv → Sto → Option (List Wv × Sto)
def OpC (K : PySem.W.Frag) (r : List V → Hp → VK → Prop) (f : FC) : Prop := ∀ (α ξ : List Addr) (S : Sto) (H : Hp) (xs : List V) (ws : List Wv) (w : Wv) (S' : Sto) (Q : VK), RS K α ξ S H → RWs K α ξ H xs ws → f ws S = some (w, S') → Post K α ξ H S' w Q → r xs H Q
def OpCF (K : PySem.W.Frag) (r : List V → Hp → VK → Prop) (f : FF) : Prop := ∀ (α ξ : List Addr) (S : Sto) (H : Hp) (xs : List V) (ws us : List Wv) (S' : Sto) (Q : VK), RS K α ξ S H → RWs K α ξ H xs ws → f ws S = some (us, S') → PostF K α ξ H S' us Q → r xs H Q
def mCall (f : FC) (a : MA) : ME := fun δ S => (a δ S).bind fun p => f p.1 p.2
def mCallF (f : FF) (a : MA) : MF := fun δ S => (a δ S).bind fun p => f p.1 p.2
section
variable {X : Cx} {x : Str} {p pos : Pos} {e : Expr} {es : List Expr} {mr : MA} {id T : String} {r : List V → Hp → VK → Prop} {f : FC} {ff : FF}
theorem tCB_of (hf : OpC X.K r f) {σ : L2.St} {H : Hp} {Q : VK} (h : tD X.K (mCall f mr) σ H Q) : tCB r (tDA X.K mr) σ H Q := by
  obtain ⟨α, ξ, S, δ, w, S', rs, re, hm, q⟩ := h
  obtain ⟨⟨ws, S1⟩, e1, hm⟩ := bind_some hm
  exact tDA_go rs re e1 fun α1 vs H1 x1 r1 q1 re1 => hf α1 ξ S1 H1 vs ws w S' Q r1 q1 hm (q.ext x1)
theorem tCB_ofF (hf : OpCF X.K r ff) {σ : L2.St} {H : Hp} {Q : VK} (h : tDF X.K (mCallF ff mr) σ H Q) : tCB r (tDA X.K mr) σ H Q := by
  obtain ⟨α, ξ, S, δ, w, S', rs, re, hm, q⟩ := h
  obtain ⟨⟨ws, S1⟩, e1, hm⟩ := bind_some hm
  exact tDA_go rs re e1 fun α1 vs H1 x1 r1 q1 re1 => hf α1 ξ S1 H1 vs ws w S' Q r1 q1 hm (q.ext x1)
theorem de_callB (hc : CallR X (.builtin id) r) (hf : OpC X.K r f) (hg : Gl X x) (hm : X.mg x = none) (hv : bootBuiltins x = some (.builtin id)) (ha : DA X (e :: es) mr) (hn : x ≠ "__name__" := by decide) (hdb : (x == ("__debug__" : Str)) = false := by decide)
    (he : starEach (e :: es) X.env = (false, eval e X.env) :: starEach es X.env := by rfl) (hpl : (backTo pos (starEach es X.env)).any (·.1) = false := by rfl) : DE X (.Call (.Name x p) (e :: es) [] pos) (mCall f mr) :=
  ⟨peMono (pe_callB hc hg hm hv ha.run hn hdb he hpl) fun _ _ _ h => tCB_of hf h⟩
theorem de_callTy (hc : CallR X (.type T) r) (hf : OpC X.K r f) (hg : Gl X x) (hm : X.mg x = none) (hv : bootBuiltins x = some (.type T)) (ha : DA X (e :: es) mr) (hn : x ≠ "__name__" := by decide) (hdb : (x == ("__debug__" : Str)) = false := by decide)
    (he : starEach (e :: es) X.env = (false, eval e X.env) :: starEach es X.env := by rfl) (hpl : (backTo pos (starEach es X.env)).any (·.1) = false := by rfl) : DE X (.Call (.Name x p) (e :: es) [] pos) (mCall f mr) :=
  ⟨peMono (pe_callTy hc hg hm hv ha.run hn hdb he hpl) fun _ _ _ h => tCB_of hf h⟩
theorem df_callB (hc : CallR X (.builtin id) r) (hf : OpCF X.K r ff) (hg : Gl X x) (hm : X.mg x = none) (hv : bootBuiltins x = some (.builtin id)) (ha : DA X (e :: es) mr) (hn : x ≠ "__name__" := by decide) (hdb : (x == ("__debug__" : Str)) = false := by decide)
    (he : starEach (e :: es) X.env = (false, eval e X.env) :: starEach es X.env := by rfl) (hpl : (backTo pos (starEach es X.env)).any (·.1) = false := by rfl) : DF X (.Call (.Name x p) (e :: es) [] pos) (mCallF ff mr) :=
  ⟨peMono (pe_callB hc hg hm hv ha.run hn hdb he hpl) fun _ _ _ h => tCB_ofF hf h⟩
theorem df_callTy (hc : CallR X (.type T) r) (hf : OpCF X.K r ff) (hg : Gl X x) (hm : X.mg x = none) (hv : bootBuiltins x = some (.type T)) (ha : DA X (e :: es) mr) (hn : x ≠ "__name__" := by decide) (hdb : (x == ("__debug__" : Str)) = false := by decide)
    (he : starEach (e :: es) X.env = (false, eval e X.env) :: starEach es X.env := by rfl) (hpl : (backTo pos (starEach es X.env)).any (·.1) = false := by rfl) : DF X (.Call (.Name x p) (e :: es) [] pos) (mCallF ff mr) :=
  ⟨peMono (pe_callTy hc hg hm hv ha.run hn hdb he hpl) fun _ _ _ h => tCB_ofF hf h⟩
end
/-! the built-ins -/
def cLen : FC
  | [.d (.str z)], S => if z.length ≤ 1000000 then some (.d (.int z.length), S) else none
  | [.d (.tuple ds)], S => some (.d (.int ds.length), S)
  | [w], S => (rdL S w).map fun ws => (.d (.int ws.length), S)
  | _, _ => none
def rLenA (K : PySem.W.Frag) : List V → Hp → VK → Prop := fun xs H Q => (∃ p ys, xs = [.ref p] ∧ (SqL K H p ys ∨ SqT K H p ys) ∧ Q (.int ys.length) H) ∨ ∃ z, xs = [.str z] ∧ z.length ≤ sizeLine ∧ Q (.int z.length) H
theorem call_lenA {X : Cx} : CallR X (.builtin "len") (rLenA X.K) := call_len_seq.or call_len_str
theorem rws_one {K : PySem.W.Frag} {α ξ : List Addr} {H : Hp} {xs : List V} {w : Wv} (h : RWs K α ξ H xs [w]) : ∃ v, xs = [v] ∧ RW K α ξ H v w := by
  cases h with
  | cons r t => cases t; exact ⟨_, rfl, r⟩
theorem rws_two {K : PySem.W.Frag} {α ξ : List Addr} {H : Hp} {xs : List V} {w u : Wv} (h : RWs K α ξ H xs [w, u]) : ∃ v z, xs = [v, z] ∧ RW K α ξ H v w ∧ RW K α ξ H z u := by
  cases h with
  | cons r t =>
    obtain ⟨z, rfl, q⟩ := rws_one t
    exact ⟨_, z, rfl, r, q⟩
section
variable {X : Cx} {K : PySem.W.Frag}
theorem c_len : OpC K (rLenA K) cLen := by
  intro α ξ S H xs ws w S' Q r h hf q
  unfold cLen at hf
  split at hf
  · rename_i z
    obtain ⟨v, ev, hw⟩ := rws_one h; subst ev
    split at hf
    · rename_i hz
      cases hw
      exact .inr ⟨z, rfl, by rw [sizeLine_eq]; omega, post_here r hf q (RD.int _)⟩
    · cases hf
  · rename_i ds
    obtain ⟨v, ev, hw⟩ := rws_one h; subst ev
    obtain ⟨a, vs, rfl, ha, ra⟩ := rdT_ok (ds := ds) hw rfl
    refine .inl ⟨a, vs, rfl, .inr ha, ?_⟩
    rw [ra.length]
    exact post_here r hf q (RD.int _)
  · rename_i w' _ _
    obtain ⟨v, ev, hw⟩ := rws_one h; subst ev
    cases e : rdL S w' with
    | none => rw [e] at hf; cases hf
    | some us =>
      rw [e] at hf
      obtain ⟨a, vs, rfl, ha, ra⟩ := rdL_ok r hw e
      refine .inl ⟨a, vs, rfl, .inl ha, ?_⟩
      rw [ra.length]
      exact post_here r hf q (RD.int _)
  · cases hf
def cInt : FC
  | [.d (.int i)], S => some (.d (.int i), S)
  | [.d (.bool b)], S => some (.d (.int (if b then 1 else 0)), S)
  | _, _ => none
theorem c_int : OpC K (fun xs H Q => (∃ i, xs = [.int i] ∧ Q (.int i) H) ∨ ∃ k, xs = [.bl k] ∧ Q (.int (if k then 1 else 0)) H) cInt := by
  intro α ξ S H xs ws w S' Q r h hf q
  unfold cInt at hf
  split at hf
  · obtain ⟨v, ev, hw⟩ := rws_one h; subst ev
    cases hw
    exact .inl ⟨_, rfl, post_here r hf q (RD.int _)⟩
  · obtain ⟨v, ev, hw⟩ := rws_one h; subst ev
    cases hw
    exact .inr ⟨_, rfl, post_here r hf q (RD.int _)⟩
  · cases hf
def cAbs : FC
  | [.d (.int i)], S => some (.d (.int (if i < 0 then -i else i)), S)
  | _, _ => none
theorem c_abs : OpC K (fun xs H Q => ∃ i, xs = [.int i] ∧ Q (.int (if i < 0 then -i else i)) H) cAbs := by
  intro α ξ S H xs ws w S' Q r h hf q
  unfold cAbs at hf
  split at hf
  · obtain ⟨v, ev, hw⟩ := rws_one h; subst ev
    cases hw
    exact ⟨_, rfl, post_here r hf q (RD.int _)⟩
  · cases hf
def cMin : FC
  | [.d (.int i), .d (.int j)], S => some (.d (.int (if j < i then j else i)), S)
  | _, _ => none
theorem c_min : OpC K (fun xs H Q => ∃ i j, xs = [.int i, .int j] ∧ Q (.int (if j < i then j else i)) H) cMin := by
  intro α ξ S H xs ws w S' Q r h hf q
  unfold cMin at hf
  split at hf
  · obtain ⟨v, z, ev, hw, h2⟩ := rws_two h; subst ev
    cases hw
    cases h2
    exact ⟨_, _, rfl, post_here r hf q (RD.int _)⟩
  · cases hf
/-- tuple(x) -/
def cTuple : FC
  | [.d (.tuple ds)], S => some (.d (.tuple ds), S)
  | [w], S => (rdL S w).bind fun ws => (toDs ws).map fun ds => (.d (.tuple ds), S)
  | _, _ => none
theorem c_tuple : OpC K (fun xs H Q => ∃ p ys, xs = [.ref p] ∧ ((SqL K H p ys ∧ ∀ l, H l = none → Q (.ref l) (upd H l (.tup ys))) ∨ (SqT K H p ys ∧ Q (.ref p) H))) cTuple := by
  intro α ξ S H xs ws w S' Q r h hf q
  unfold cTuple at hf
  split at hf
  · rename_i ds
    obtain ⟨v, ev, hw⟩ := rws_one h; subst ev
    obtain ⟨a, vs, rfl, ha, ra⟩ := rdT_ok (ds := ds) hw rfl
    exact ⟨a, vs, rfl, .inr ⟨ha, post_here r hf q hw⟩⟩
  · rename_i w' _
    obtain ⟨v, ev, hw⟩ := rws_one h; subst ev
    obtain ⟨us, e, hf⟩ := bind_some hf
    obtain ⟨a, vs, rfl, ha, ra⟩ := rdL_ok r hw e
    cases e2 : toDs us with
    | none => rw [e2] at hf; cases hf
    | some ds =>
      rw [e2] at hf
      cases hf
      have e3 := toDs_eq e2
      subst e3
      exact ⟨a, vs, rfl, .inl ⟨ha, fun l hl => post_tup r q (rds_of_rws ra) hl⟩⟩
  · cases hf
/-- list(x): a new list -/
def cList : FF
  | [.d (.tuple ds)], S => some (ds.map .d, S)
  | [w], S => (rdL S w).map fun ws => (ws, S)
  | _, _ => none
theorem c_list : OpCF K (fun xs H Q => ∃ p ys, xs = [.ref p] ∧ (SqL K H p ys ∨ SqT K H p ys) ∧ ∀ l, H l = none → Q (.ref l) (upd H l (.lst ys))) cList := by
  intro α ξ S H xs ws us S' Q r h hf q
  unfold cList at hf
  split at hf
  · rename_i ds
    cases hf
    obtain ⟨v, ev, hw⟩ := rws_one h; subst ev
    obtain ⟨a, vs, rfl, ha, ra⟩ := rdT_ok (ds := ds) hw rfl
    exact ⟨a, vs, rfl, .inr ha, fun l hl => q α vs H l Ext.refl r hl (rws_of_rds ra)⟩
  · rename_i w' _
    obtain ⟨v, ev, hw⟩ := rws_one h; subst ev
    cases e : rdL S w' with
    | none => rw [e] at hf; cases hf
    | some zs =>
      rw [e] at hf
      cases hf
      obtain ⟨a, vs, rfl, ha, ra⟩ := rdL_ok r hw e
      exact ⟨a, vs, rfl, .inl ha, fun l hl => q α vs H l Ext.refl r hl ra⟩
  · cases hf
/-- the ints of data -/
def toInts : List Wv → Option (List Int)
  | [] => some []
  | .d (.int x) :: r => (toInts r).map (x :: ·)
  | _ :: _ => none
theorem toInts_ok {α ξ : List Addr} {H : Hp} : ∀ {vs : List V} {ws : List Wv} {ns : List Int}, RWs K α ξ H vs ws → toInts ws = some ns → vs = ns.map V.int
  | _, _, _, .nil, e => by cases e; rfl
  | _, w :: ws, ns, .cons r t, e => by
    cases w with
    | d x =>
      cases x with
      | int i =>
        have e1 : (toInts ws).map (i :: ·) = some ns := e
        cases e2 : toInts ws with
        | none => rw [e2] at e1; cases e1
        | some ms =>
          rw [e2] at e1
          cases e1
          rw [toInts_ok t e2]
          cases r
          rfl
      | _ => cases e
    | _ => cases e
def toBls : List Wv → Option (List Bool)
  | [] => some []
  | .d (.bool x) :: r => (toBls r).map (x :: ·)
  | _ :: _ => none
theorem toBls_ok {α ξ : List Addr} {H : Hp} : ∀ {vs : List V} {ws : List Wv} {ns : List Bool}, RWs K α ξ H vs ws → toBls ws = some ns → vs = ns.map V.bl
  | _, _, _, .nil, e => by cases e; rfl
  | _, w :: ws, ns, .cons r t, e => by
    cases w with
    | d x =>
      cases x with
      | bool i =>
        have e1 : (toBls ws).map (i :: ·) = some ns := e
        cases e2 : toBls ws with
        | none => rw [e2] at e1; cases e1
        | some ms =>
          rw [e2] at e1
          cases e1
          rw [toBls_ok t e2]
          cases r
          rfl
      | _ => cases e
    | _ => cases e
/-- a sort of ints, by insertion -/
def ins (a : Int) : List Int → List Int
  | [] => [a]
  | b :: r => if a ≤ b then a :: b :: r else b :: ins a r
def isort : List Int → List Int
  | [] => []
  | a :: r => ins a (isort r)
theorem ins_perm (a : Int) : ∀ l : List Int, (ins a l).Perm (a :: l)
  | [] => .refl _
  | b :: r => by
    unfold ins
    split
    · exact .refl _
    · exact ((ins_perm a r).cons b).trans (.swap a b r)
theorem isort_perm : ∀ l : List Int, (isort l).Perm l
  | [] => .refl _
  | a :: r => (ins_perm a _).trans ((isort_perm r).cons a)
theorem ins_up (a : Int) : ∀ {l : List Int}, l.Pairwise (· ≤ ·) → (ins a l).Pairwise (· ≤ ·)
  | [], _ => by simp [ins]
  | b :: r, h => by
    unfold ins
    rw [List.pairwise_cons] at h
    split
    · rename_i hab
      refine List.pairwise_cons.mpr ⟨fun c hc => ?_, List.pairwise_cons.mpr h⟩
      rcases List.mem_cons.mp hc with rfl | hc
      · exact hab
      · exact Int.le_trans hab (h.1 c hc)
    · rename_i hab
      refine List.pairwise_cons.mpr ⟨fun c hc => ?_, ins_up a h.2⟩
      rcases List.mem_cons.mp ((ins_perm a r).mem_iff.mp hc) with rfl | hc
      · omega
      · exact h.1 c hc
theorem isort_up : ∀ l : List Int, (isort l).Pairwise (· ≤ ·)
  | [] => .nil
  | a :: r => ins_up a (isort_up r)
theorem sorted_one : ∀ {l m : List Int}, l.Perm m → l.Pairwise (· ≤ ·) → m.Pairwise (· ≤ ·) → l = m
  | [], m, p, _, _ => by simpa using p
  | a :: l, m, p, h1, h2 => by
    cases m with
    | nil => simp at p
    | cons b m =>
      rw [List.pairwise_cons] at h1 h2
      have ha : a ∈ b :: m := p.mem_iff.mp List.mem_cons_self
      have hb : b ∈ a :: l := p.mem_iff.mpr List.mem_cons_self
      have e : a = b := by
        rcases List.mem_cons.mp ha with e | ha
        · exact e
        · rcases List.mem_cons.mp hb with e | hb
          · exact e.symm
          · exact Int.le_antisymm (h1.1 b hb) (h2.1 a ha)
      subst e
      rw [sorted_one (List.Perm.cons_inv p) h1.2 h2.2]
def cSorted : FF
  | [w], S => (rdL S w).bind fun ws => (toInts ws).map fun ns => ((isort ns).map fun i => .d (.int i), S)
  | _, _ => none
theorem c_sorted : OpCF K (rSortedI K) cSorted := by
  intro α ξ S H xs ws us S' Q r h hf q
  unfold cSorted at hf
  split at hf
  · rename_i w'
    obtain ⟨v, ev, hw⟩ := rws_one h; subst ev
    obtain ⟨zs, e, hf⟩ := bind_some hf
    obtain ⟨a, vs, rfl, ha, ra⟩ := rdL_ok r hw e
    cases e2 : toInts zs with
    | none => rw [e2] at hf; cases hf
    | some ns =>
      rw [e2] at hf
      cases hf
      have e3 := toInts_ok ra e2
      subst e3
      refine ⟨a, ns, rfl, ha, fun ns' p hp hup hn => ?_⟩
      rw [sorted_one (hp.trans (isort_perm ns).symm) hup (isort_up ns)]
      exact q α _ H p Ext.refl r hn (ints_rws _)
  · cases hf
/-- all(a list of bools) -/
def cAll : FC
  | [w], S => (rdL S w).bind fun ws => (toBls ws).map fun bs => (.d (.bool (bs.all id)), S)
  | _, _ => none
theorem c_all : OpC K (rAll K) cAll := by
  intro α ξ S H xs ws w S' Q r h hf q
  unfold cAll at hf
  split at hf
  · rename_i w'
    obtain ⟨v, ev, hw⟩ := rws_one h; subst ev
    obtain ⟨zs, e, hf⟩ := bind_some hf
    obtain ⟨a, vs, rfl, ha, ra⟩ := rdL_ok r hw e
    cases e2 : toBls zs with
    | none => rw [e2] at hf; cases hf
    | some ns =>
      rw [e2] at hf
      have e3 := toBls_ok ra e2
      subst e3
      exact ⟨a, ns, rfl, ha, post_here r hf q (RD.bl _)⟩
  · cases hf
end
end K15
set_option Elab.async false
set_option linter.all false
set_option maxRecDepth 100000
set_option maxHeartbeats 4000000
set_option autoImplicit false
namespace K15
open PySem PySem.Spec PyProof.Rows L2
/-! ### isinstance -/
def isi : PyData → Ty5 → Bool
  | .int _, .int => true
  | .bool _, .int => true
  | .bool _, .bool => true
  | .str _, .str => true
  | .list _, .list => true
  | .tuple _, .tuple => true
  | _, _ => false
def isiW : Wv → Ty5 → Option Bool
  | .d (.dict _), _ => none
  | .d x, t => some (isi x t)
  | .ref _, .list => some true
  | .ref _, _ => some false
  | _, _ => none
def isiAny (w : Wv) : List Ty5 → Option Bool
  | [] => some false
  | t :: ts => match isiW w t with
    | some true => some true
    | some false => isiAny w ts
    | none => none
def cIsi : FC
  | [w, .ty t], S => (isiW w t).map fun b => (.d (.bool b), S)
  | [w, .tys (t :: ts)], S => (isiAny w (t :: ts)).map fun b => (.d (.bool b), S)
  | _, _ => none
section
variable {X : Cx} {K : PySem.W.Frag}
def ty5s : List Ty5 := [.int, .bool, .str, .list, .tuple]
theorem ty5_all (p : Ty5 → Bool) (h : ty5s.all p = true) (t : Ty5) : p t = true := by
  have h2 : (p .int && (p .bool && (p .str && (p .list && (p .tuple && true))))) = true := h
  simp only [Bool.and_eq_true] at h2
  cases t
  · exact h2.1
  · exact h2.2.1
  · exact h2.2.2.1
  · exact h2.2.2.2.1
  · exact h2.2.2.2.2.1
def kitE (n : String) (r : Ty5 → Bool) (t : Ty5) : Bool := decide (kitB n t.name = some (r t))
theorem kit5 {n : String} {r : Ty5 → Bool} (h : ty5s.all (kitE n r) = true) (t : Ty5) : PySem.W.kitOne K (.type n) (.type t.name) = some (r t) := kit_ty (of_decide_eq_true (ty5_all _ h t))
def rNo : Ty5 → Bool := fun _ => false
def rOf : Ty5 → Ty5 → Bool
  | .int, .int => true | .bool, .int => true | .bool, .bool => true | .str, .str => true | .list, .list => true | .tuple, .tuple => true
  | _, _ => false
theorem isi_ok {α ξ : List Addr} {S : Sto} {H : Hp} {v : V} {w : Wv} (r : RS K α ξ S H) (h : RW K α ξ H v w) (e0 : ∃ t b, isiW w t = some b) : ∃ T : Value, TyX K H v T ∧ ∀ t b, isiW w t = some b → PySem.W.kitOne K T (.type t.name) = some b := by
  cases w with
  | d x =>
    cases h with
    | non => exact ⟨_, .base .non, fun t b e => by
        have e' : some (isi .none t) = some b := e
        cases e'
        exact (kit5 (n := "NoneType") (r := rNo) (by decide +kernel) t).trans (by cases t <;> rfl)⟩
    | bl x => exact ⟨_, .base (.bl x), fun t b e => by
        have e' : some (isi (.bool x) t) = some b := e
        cases e'
        exact (kit5 (n := "bool") (r := rOf .bool) (by decide +kernel) t).trans (by cases t <;> rfl)⟩
    | int i => exact ⟨_, .base (.int i), fun t b e => by
        have e' : some (isi (.int i) t) = some b := e
        cases e'
        exact (kit5 (n := "int") (r := rOf .int) (by decide +kernel) t).trans (by cases t <;> rfl)⟩
    | str z => exact ⟨_, .base (.str z), fun t b e => by
        have e' : some (isi (.str z) t) = some b := e
        cases e'
        exact (kit5 (n := "str") (r := rOf .str) (by decide +kernel) t).trans (by cases t <;> rfl)⟩
    | @lst a vs ds h1 h2 h3 => exact ⟨_, .base (.lst h1), fun t b e => by
        have e' : some (isi (.list ds) t) = some b := e
        cases e'
        exact (kit5 (n := "list") (r := rOf .list) (by decide +kernel) t).trans (by cases t <;> rfl)⟩
    | @tup a vs ds h1 h3 =>
      have k : ∀ t b, isiW (.d (.tuple ds)) t = some b → PySem.W.kitOne K (.type "tuple") (.type t.name) = some b := fun t b e => by
        have e' : some (isi (.tuple ds) t) = some b := e
        cases e'
        exact (kit5 (n := "tuple") (r := rOf .tuple) (by decide +kernel) t).trans (by cases t <;> rfl)
      rcases h1 with (h1 | ⟨o, h1⟩) | ⟨o, its, n, h1, h2, _⟩
      · exact ⟨_, .base (.tup h1), k⟩
      · exact ⟨_, .fTuple h1, k⟩
      · exact ⟨_, .kTuple h1 h2, k⟩
  | ref n =>
    obtain ⟨a, rfl, q⟩ := h
    obtain ⟨vs, h1⟩ := r.lst (List.mem_of_getElem? q)
    exact ⟨_, .base (.lst h1), fun t b e => by
        refine (kit5 (n := "list") (r := rOf .list) (by decide +kernel) t).trans ?_
        cases t <;> exact e⟩
  | _ => obtain ⟨t, b, e⟩ := e0; cases e
def rIsiA (K : PySem.W.Frag) : List V → Hp → VK → Prop := fun xs H Q => rIsi K xs H Q ∨ rIsiT K xs H Q
theorem call_isiA : CallR X (.builtin "isinstance") (rIsiA X.K) := call_isi.or call_isiT
theorem cls_all : ∀ ns : List Ty5, Paired ClsV (ns.map fun n => V.ty n.name) (ns.map fun n => Value.type n.name)
  | [] => .nil
  | n :: ns => .cons (.ty n.name) (cls_all ns)
theorem isiAny_ok {T : Value} {w : Wv} (key : ∀ t b, isiW w t = some b → PySem.W.kitOne K T (.type t.name) = some b) : ∀ {ts : List Ty5} {b : Bool}, isiAny w ts = some b → PySem.W.kitAny K T (ts.map fun n => Value.type n.name) = some b
  | [], b, e => by cases e; rfl
  | t :: ts, b, e => by
    unfold isiAny at e
    cases e1 : isiW w t with
    | none => rw [e1] at e; cases e
    | some c =>
      rw [e1] at e
      cases c with
      | true =>
        cases e
        exact kitAny_cons (key t true e1) (fun z => by cases z) fun _ => rfl
      | false => exact kitAny_cons (key t false e1) (fun _ => isiAny_ok key e) (fun z => by cases z)
theorem c_isi : OpC K (rIsiA K) cIsi := by
  intro α ξ S H xs ws w S' Q r h hf q
  unfold cIsi at hf
  split at hf
  · rename_i w' t
    obtain ⟨v, z, ev, hw, h2⟩ := rws_two h; subst ev
    cases e : isiW w' t with
    | none => rw [e] at hf; cases hf
    | some b =>
      rw [e] at hf
      obtain ⟨T, ty, k⟩ := isi_ok r hw ⟨t, b, e⟩
      cases (show z = V.ty t.name from h2)
      exact .inl ⟨v, _, T, _, b, rfl, .ty t.name, ty, k t b e, post_here r hf q (RD.bl _)⟩
  · rename_i w' t ts
    obtain ⟨v, z, ev, hw, h2⟩ := rws_two h; subst ev
    cases e : isiAny w' (t :: ts) with
    | none => rw [e] at hf; cases hf
    | some b =>
      rw [e] at hf
      obtain ⟨a, rfl, q2⟩ := h2
      · have e0 : ∃ t b, isiW w' t = some b := by
          unfold isiAny at e
          cases e1 : isiW w' t with
          | none => rw [e1] at e; cases e
          | some c => exact ⟨t, c, e1⟩
        obtain ⟨T, ty, k⟩ := isi_ok r hw e0
        exact .inr ⟨v, a, _, T, _, b, rfl, q2, cls_all _, ty, isiAny_ok k e, post_here r hf q (RD.bl _)⟩
  · cases hf
end
end K15
set_option Elab.async false
set_option linter.all false
set_option maxRecDepth 100000
set_option maxHeartbeats 4000000
set_option autoImplicit false
namespace K15
open PySem PySem.Spec PyProof.Rows L2
/-! ### items, slices -/
theorem ixN_lt {n : Nat} {i : Int} {j : Nat} (h : ixN n i = some j) : j < n := (ixN_seq h).2.1
theorem atI_of {γ δ : Type} {xs : List γ} {ys : List δ} (hl : xs.length = ys.length) {i : Int} {y : δ} (h : atI ys i = some y) : ∃ j : Nat, ys[j]? = some y ∧ ∀ x, xs[j]? = some x → atI xs i = some x := by
  unfold atI at h ⊢
  cases e : ixN ys.length i with
  | none => rw [e] at h; cases h
  | some j =>
    rw [e] at h
    refine ⟨j, h, fun x hx => ?_⟩
    rw [hl, e]
    exact hx
theorem rws_get {K : PySem.W.Frag} {α ξ : List Addr} {H : Hp} : ∀ {vs : List V} {ws : List Wv} {i : Nat} {w : Wv}, RWs K α ξ H vs ws → ws[i]? = some w → ∃ v, vs[i]? = some v ∧ RW K α ξ H v w
  | _, _, _, _, .nil, e => by simp at e
  | _, _, 0, _, .cons r _, e => by simp at e; subst e; exact ⟨_, rfl, r⟩
  | _, _, i + 1, d, .cons _ t, e => by
    obtain ⟨u, h1, h2⟩ := rws_get (i := i) (w := d) t (by simpa using e)
    exact ⟨u, by simpa using h1, h2⟩
def fIx : F2
  | .d (.tuple ds), .d (.int i), S => (atI ds i).map fun d => (.d d, S)
  | .d (.str z), .d (.int i), S => if z.length ≤ 1000000 then (atI z.cps.toList i).map fun c => (.d (.str ⟨#[c]⟩), S) else none
  | w, .d (.int i), S => (rdL S w).bind fun ws => (atI ws i).map fun u => (u, S)
  | _, _, _ => none
/-- a cut of a list -/
def cutG {γ : Type} (xs : List γ) (lo hi : Option Int) : List γ := (xs.drop (HT.sIx xs.length 0 lo)).take (HT.sIx xs.length xs.length hi - HT.sIx xs.length 0 lo)
theorem cutG_whole {γ : Type} {xs : List γ} {lo hi : Option Int} (h : HT.sIx xs.length 0 lo = 0 ∧ HT.sIx xs.length xs.length hi = xs.length) : cutG xs lo hi = xs := by
  unfold cutG
  rw [h.1, h.2]
  simp
abbrev MO := DEnv → Sto → Option (Option Int × Sto)
def mNo : MO := fun _ S => some (none, S)
def mPart (a : ME) : MO := fun δ S => (a δ S).bind fun p => match p.1 with
  | .d (.int i) => some (some i, p.2)
  | _ => none
def fSl (w : Wv) (lo hi : Option Int) (S : Sto) : Option (Wv × Sto) := match w with
  | .d (.tuple ds) => some (.d (.tuple (cutG ds lo hi)), S)
  | .d (.str z) => if z.length ≤ 1000000 then some (.d (.str (cutS z lo hi)), S) else none
  | w => (rdL S w).bind fun ws => (toDs ws).map fun ds => (.d (.list (cutG ds lo hi)), S)
def mSl (a : ME) (lo hi : MO) : ME := fun δ S => (a δ S).bind fun p => (lo δ p.2).bind fun q => (hi δ q.2).bind fun z => fSl p.1 q.1 z.1 z.2
section
variable {X : Cx} {K : PySem.W.Frag} {a b e : Expr} {ma mb : ME} {pos p2 : Pos}
theorem o_ix : Op2 K (rIx K) fIx := by
  intro α ξ S H x y w1 w2 w S' Q r h1 h2 hf q
  unfold fIx at hf
  split at hf
  · rename_i ds i
    have h2' : RD K (Mb α ξ) H y (.int i) := h2
    cases h2'
    obtain ⟨p, vs, rfl, ha, ra⟩ := rdT_ok (ds := ds) h1 rfl
    cases e : atI ds i with
    | none => rw [e] at hf; cases hf
    | some d =>
      rw [e] at hf
      obtain ⟨j, hj, k⟩ := atI_of ra.length e
      obtain ⟨v, hv, rv⟩ := ra.get hj
      exact .inr (.inl ⟨p, vs, i, v, rfl, rfl, ha, k v hv, post_here r hf q rv⟩)
  · rename_i z i
    have h2' : RD K (Mb α ξ) H y (.int i) := h2
    cases h2'
    cases h1
    split at hf
    · rename_i hz
      cases e : atI z.cps.toList i with
      | none => rw [e] at hf; cases hf
      | some c =>
        rw [e] at hf
        exact .inr (.inr ⟨z, i, c, rfl, rfl, by rw [sizeLine_eq]; omega, e, post_here r hf q (RD.str _)⟩)
    · cases hf
  · rename_i w' i _ _
    have h2' : RD K (Mb α ξ) H y (.int i) := h2
    cases h2'
    obtain ⟨ws, e, hf⟩ := bind_some hf
    obtain ⟨p, vs, rfl, ha, ra⟩ := rdL_ok r h1 e
    cases e2 : atI ws i with
    | none => rw [e2] at hf; cases hf
    | some u =>
      rw [e2] at hf
      obtain ⟨j, hj, k⟩ := atI_of (Paired.length ra) e2
      obtain ⟨v, hv, rv⟩ := rws_get ra hj
      exact .inl ⟨p, vs, i, v, rfl, rfl, ha, k v hv, post_here r hf q rv⟩
  · cases hf
theorem de_ix (ha : DE X a ma) (hb : DE X b mb) (hs : PlainIx b) : DE X (.Subscript a b pos) (mBin fIx ma mb) :=
  ⟨peMono (pe_ix ix_seq ha.run hb.run hs) fun _ _ _ h => tOp_of o_ix h⟩
/-- a part of a slice -/
def tDO (K : PySem.W.Frag) (m : MO) : TO := fun σ H Q => ∃ α ξ S δ o S', RS K α ξ S H ∧ RE K α ξ H σ δ ∧ m δ S = some (o, S') ∧ ∀ α1 H1, Ext α H α1 H1 → RS K α1 ξ S' H1 → Q o H1
structure DO (X : Cx) (e : Option Expr) (m : MO) : Prop where
  run : PO X e (tDO X.K m)
theorem poMono {o : Option Expr} {t t' : TO} (h : PO X o t) (k : ∀ σ H Q, t' σ H Q → t σ H Q) : PO X o t' := ⟨fun pins s σ H Q I q => h.run pins s σ H Q I (k σ H Q q)⟩
theorem do_none : DO X none mNo := by
  refine ⟨poMono po_none fun σ H Q h => ?_⟩
  obtain ⟨α, ξ, S, δ, o, S', rs, re, hm, q⟩ := h
  cases hm
  exact q α H Ext.refl rs
theorem do_some (ha : DE X e ma) : DO X (some e) (mPart ma) := by
  refine ⟨poMono (po_some ha.run) fun σ H Q h => ?_⟩
  obtain ⟨α, ξ, S, δ, o, S', rs, re, hm, q⟩ := h
  obtain ⟨⟨w1, S1⟩, e1, hm2⟩ := bind_some hm
  refine tD_go rs re e1 fun α1 v1 H1 x1 r1 q1 re1 => ?_
  simp only at hm2
  split at hm2
  · rename_i i
    cases hm2
    cases q1
    exact ⟨i, rfl, q α1 H1 x1 r1⟩
  · cases hm2
def rSlG (K : PySem.W.Frag) : V → Option Int → Option Int → Hp → VK → Prop := fun x lo hi H Q => rSlA K x lo hi H Q ∨ rSlS x lo hi H Q ∨ rSlL K x lo hi H Q
theorem sl_g : SlR X (rSlG X.K) := sl_tupA.or (sl_str.or sl_list)
theorem de_sl {lo hi : Option Expr} {ml mh : MO} (ha : DE X a ma) (hl : DO X lo ml) (hh : DO X hi mh) : DE X (.Subscript a (.Slice lo hi none p2) pos) (mSl ma ml mh) := by
  refine ⟨peMono (pe_slice sl_g ha.run hl.run hh.run) fun σ H Q h => ?_⟩
  obtain ⟨α, ξ, S, δ, w, S', rs, re, hm, q⟩ := h
  obtain ⟨⟨w1, S1⟩, e1, hm2⟩ := bind_some hm
  obtain ⟨⟨l, S2⟩, e2, hm3⟩ := bind_some hm2
  obtain ⟨⟨u, S3⟩, e3, hm4⟩ := bind_some hm3
  refine tD_go rs re e1 fun α1 v1 H1 x1 r1 q1 re1 => ?_
  refine ⟨α1, ξ, S1, δ, l, S2, r1, re1, e2, fun α2 H2 x2 r2 => ?_⟩
  refine ⟨α2, ξ, S2, δ, u, S3, r2, x2.re r1 re1, e3, fun α3 H3 x3 r3 => ?_⟩
  have q3 : RW X.K α3 ξ H3 v1 w1 := (x2.trans x3).rw r1 q1
  have x13 := (x1.trans x2).trans x3
  have qq := q.ext x13
  simp only at hm4
  unfold fSl at hm4
  split at hm4
  · rename_i ds
    obtain ⟨p, vs, rfl, hp, rv⟩ := rdT_ok (ds := ds) q3 rfl
    have hlen := rv.length
    refine .inl ⟨p, vs, rfl, hp, fun hw => ?_, fun hw p hp => ?_⟩
    · rw [hlen] at hw
      rw [cutG_whole hw] at hm4
      exact post_here r3 hm4 qq q3
    · cases hm4
      have ec : cutV vs l u = cutG vs l u := rfl
      rw [ec]
      refine post_tup r3 qq ?_ hp
      unfold cutG
      rw [hlen]
      exact (rv.drop _).take _
  · rename_i z
    split at hm4
    · rename_i hz
      cases q3
      exact .inr (.inl ⟨z, rfl, by rw [sizeLine_eq]; omega, post_here r3 hm4 qq (RD.str _)⟩)
    · cases hm4
  · rename_i w' _ _
    obtain ⟨ws, e, hm5⟩ := bind_some hm4
    cases e4 : toDs ws with
    | none => rw [e4] at hm5; cases hm5
    | some ds =>
      rw [e4] at hm5
      have e5 := toDs_eq e4
      subst e5
      cases hm5
      obtain ⟨p, vs, rfl, hp, rv⟩ := rdL_ok r3 q3 e
      have rd := rds_of_rws rv
      have hlen := rd.length
      refine .inr (.inr ⟨p, vs, rfl, hp, fun p hp => ?_⟩)
      have ec : cutV vs l u = cutG vs l u := rfl
      rw [ec]
      refine post_lst r3 qq ?_ hp
      unfold cutG
      rw [hlen]
      exact (rd.drop _).take _
end
/-! ### lists joined, repeated -/
abbrev F2F := Wv → Wv → Sto → Option (List Wv × Sto)
def mBinF (f : F2F) (a b : ME) : MF := fun δ S => (a δ S).bind fun p => (b δ p.2).bind fun q => f p.1 q.1 q.2
def fCat : F2F := fun x y S => (rdM S x).bind fun xs => (rdM S y).bind fun ys => if xs.length + ys.length ≤ 1000000 then some (xs ++ ys, S) else none
def fRep : F2F := fun x y S => match y with
  | .d (.int k) => (rdM S x).bind fun xs => if -(2 ^ 63) ≤ k ∧ k < 2 ^ 63 ∧ xs.length * k.toNat ≤ 1000000 then some ((List.replicate k.toNat xs).flatten, S) else none
  | _ => none
section
variable {X : Cx} {K : PySem.W.Frag} {a b e : Expr} {ma mb : ME} {pos p2 : Pos}
theorem rws_app {α ξ : List Addr} {H : Hp} {xs ys : List V} {us zs : List Wv} (h1 : RWs K α ξ H xs us) (h2 : RWs K α ξ H ys zs) : RWs K α ξ H (xs ++ ys) (us ++ zs) := by
  induction h1 with
  | nil => exact h2
  | cons r t ih => exact .cons r ih
theorem rws_rep {α ξ : List Addr} {H : Hp} {xs : List V} {us : List Wv} (h : RWs K α ξ H xs us) : ∀ k : Nat, RWs K α ξ H (List.replicate k xs).flatten (List.replicate k us).flatten
  | 0 => .nil
  | k + 1 => by
    rw [List.replicate_succ, List.replicate_succ, List.flatten_cons, List.flatten_cons]
    exact rws_app h (rws_rep h k)
theorem df_cat (ha : DE X a ma) (hb : DE X b mb) : DF X (.BinOp a .Add b pos) (mBinF fCat ma mb) := by
  refine ⟨peMono (pe_op op_cat ha.run hb.run) fun σ H Q h => ?_⟩
  obtain ⟨α, ξ, S, δ, us, S', rs, re, hm, q⟩ := h
  obtain ⟨⟨w1, S1⟩, e1, hm2⟩ := bind_some hm
  obtain ⟨⟨w2, S2⟩, e2, hm3⟩ := bind_some hm2
  obtain ⟨xs, e3, hm4⟩ := bind_some hm3
  obtain ⟨ys, e4, hm5⟩ := bind_some hm4
  refine tD_go rs re e1 fun α1 v1 H1 x1 r1 q1 re1 => ?_
  refine tD_go r1 re1 e2 fun α2 v2 H2 x2 r2 q2 re2 => ?_
  simp only at hm5 e3 e4
  split at hm5
  · rename_i hz
    cases hm5
    obtain ⟨p, vs, rfl, hp, rv⟩ := rdM_ok r2 (x2.rw r1 q1) e3
    obtain ⟨p', vs', rfl, hp', rv'⟩ := rdM_ok r2 q2 e4
    refine ⟨p, p', vs, vs', rfl, rfl, hp, hp', by rw [Paired.length rv, Paired.length rv', sizeLine_eq]; omega, fun p3 hp3 => ?_⟩
    exact q α2 _ H2 p3 (x1.trans x2) r2 hp3 (rws_app rv rv')
  · cases hm5
theorem df_rep (ha : DE X a ma) (hb : DE X b mb) : DF X (.BinOp a .Mult b pos) (mBinF fRep ma mb) := by
  refine ⟨peMono (pe_op op_rep ha.run hb.run) fun σ H Q h => ?_⟩
  obtain ⟨α, ξ, S, δ, us, S', rs, re, hm, q⟩ := h
  obtain ⟨⟨w1, S1⟩, e1, hm2⟩ := bind_some hm
  obtain ⟨⟨w2, S2⟩, e2, hm3⟩ := bind_some hm2
  refine tD_go rs re e1 fun α1 v1 H1 x1 r1 q1 re1 => ?_
  refine tD_go r1 re1 e2 fun α2 v2 H2 x2 r2 q2 re2 => ?_
  simp only at hm3
  unfold fRep at hm3
  split at hm3
  · rename_i k
    obtain ⟨xs, e3, hm5⟩ := bind_some hm3
    split at hm5
    · rename_i hz
      cases hm5
      cases q2
      obtain ⟨p, vs, rfl, hp, rv⟩ := rdM_ok r2 (x2.rw r1 q1) e3
      refine ⟨p, k, vs, rfl, rfl, hp, hz.1, hz.2.1, by rw [Paired.length rv, sizeLine_eq]; omega, fun p3 hp3 => ?_⟩
      exact q α2 _ H2 p3 (x1.trans x2) r2 hp3 (rws_rep rv _)
    · cases hm5
  · cases hm3
end
/-! ### methods of lists -/
def mAppend (o e : ME) : ME := fun δ S => (o δ S).bind fun p => match p.1 with
  | .ref n => (e δ p.2).bind fun q => (q.2[n]?).bind fun ws => if ws.length < 1000000 then some (.d .none, q.2.set n (ws ++ [q.1])) else none
  | _ => none
def mPop (o e : ME) : ME := fun δ S => (o δ S).bind fun p => match p.1 with
  | .ref n => (e δ p.2).bind fun q => match q.1 with
    | .d (.int i) => (q.2[n]?).bind fun ws => if 0 ≤ i ∧ i < 2 ^ 63 then (ws[i.toNat]?).map fun u => (u, q.2.set n (ws.eraseIdx i.toNat)) else none
    | _ => none
  | _ => none
def fIndex : F2
  | .d (.list ds), .d x, S => if SeqAt.shaped (.list ds) && SeqAt.shaped x then (ds.findIdx? fun z => PyData.eqv z x).map fun j => (.d (.int (j : Nat)), S) else none
  | _, _, _ => none
theorem rws_erase {K : PySem.W.Frag} {α ξ : List Addr} {H : Hp} : ∀ {xs : List V} {us : List Wv} (i : Nat), RWs K α ξ H xs us → RWs K α ξ H (xs.eraseIdx i) (us.eraseIdx i)
  | _, _, _, .nil => .nil
  | _, _, 0, .cons _ t => t
  | _, _, i + 1, .cons r t => .cons r (rws_erase i t)
section
variable {X : Cx} {K : PySem.W.Frag} {o e : Expr} {mo me : ME} {apos cpos : Pos}
theorem de_append (ho : DE X o mo) (he : DE X e me)
    (hbase : attributeBase o "append" X.env (eval o X.env) = eval o X.env := by rfl)
    (hfew : ((backTo cpos (starEach [e] X.env)).all (fun x => !x.1) && (backToKw cpos (keywordEach [] X.env)).all (fun x => x.1.isSome)
      && decide ([e].length + ([] : List Keyword).length + (if ([] : List Keyword).isEmpty then 0 else 1) < 30)) = true := by rfl)
    (hline : (apos.endLine == cpos.line) = true := by rfl) (hs : starEach [e] X.env = (false, eval e X.env) :: starEach [] X.env := by rfl) :
    DE X (.Call (.Attribute o "append" apos) [e] [] cpos) (mAppend mo me) := by
  refine ⟨peMono (pe_bm PySem.F.plainAttrs_list PySem.F.slot_list_append PySem.F.type_list_append mt_append ho.run (pa_cons he.run pa_nil hs) hbase hfew hline hs (by rfl)) fun σ H Q h => ?_⟩
  obtain ⟨α, ξ, S, δ, w, S', rs, re, hm, q⟩ := h
  obtain ⟨⟨w1, S1⟩, e1, hm2⟩ := bind_some hm
  refine tD_go rs re e1 fun α1 v1 H1 x1 r1 q1 re1 => ?_
  simp only at hm2
  split at hm2
  · rename_i n
    obtain ⟨⟨w2, S2⟩, e2, hm3⟩ := bind_some hm2
    obtain ⟨ws, e3, hm4⟩ := bind_some hm3
    simp only at hm4 e3
    obtain ⟨a, rfl, ha⟩ := id q1
    obtain ⟨vs1, h1⟩ := r1.lst (List.mem_of_getElem? ha)
    refine ⟨.inl ⟨rfl, _, SqL.of h1⟩, ?_⟩
    refine tD_go r1 re1 e2 fun α2 v2 H2 x2 r2 q2 re2 => ?_
    split at hm4
    · rename_i hz
      cases hm4
      have ha2 : α2[n]? = some a := x2.at_ ha
      obtain ⟨vs, h2, rv⟩ := r2.at_ n a ws ha2 e3
      refine ⟨a, vs, v2, rfl, rfl, h2, by rw [Paired.length rv, sizeLine_eq]; omega, ?_⟩
      exact q α2 _ _ ((x1.trans x2).trans (ext_set ha2)) (r2.set ha2 (rws_app rv (.cons q2 .nil))) RD.non
    · cases hm4
  · cases hm2
theorem de_pop (ho : DE X o mo) (he : DE X e me)
    (hbase : attributeBase o "pop" X.env (eval o X.env) = eval o X.env := by rfl)
    (hfew : ((backTo cpos (starEach [e] X.env)).all (fun x => !x.1) && (backToKw cpos (keywordEach [] X.env)).all (fun x => x.1.isSome)
      && decide ([e].length + ([] : List Keyword).length + (if ([] : List Keyword).isEmpty then 0 else 1) < 30)) = true := by rfl)
    (hline : (apos.endLine == cpos.line) = true := by rfl) (hs : starEach [e] X.env = (false, eval e X.env) :: starEach [] X.env := by rfl) :
    DE X (.Call (.Attribute o "pop" apos) [e] [] cpos) (mPop mo me) := by
  refine ⟨peMono (pe_bm PySem.F.plainAttrs_list PySem.F.slot_list_pop PySem.F.type_list_pop mt_popAt ho.run (pa_cons he.run pa_nil hs) hbase hfew hline hs (by rfl)) fun σ H Q h => ?_⟩
  obtain ⟨α, ξ, S, δ, w, S', rs, re, hm, q⟩ := h
  obtain ⟨⟨w1, S1⟩, e1, hm2⟩ := bind_some hm
  refine tD_go rs re e1 fun α1 v1 H1 x1 r1 q1 re1 => ?_
  simp only at hm2
  split at hm2
  · rename_i n
    obtain ⟨⟨w2, S2⟩, e2, hm3⟩ := bind_some hm2
    simp only at hm3
    obtain ⟨a, rfl, ha⟩ := id q1
    obtain ⟨vs1, h1⟩ := r1.lst (List.mem_of_getElem? ha)
    refine ⟨.inl ⟨rfl, _, SqL.of h1⟩, ?_⟩
    refine tD_go r1 re1 e2 fun α2 v2 H2 x2 r2 q2 re2 => ?_
    split at hm3
    · rename_i i
      obtain ⟨ws, e3, hm4⟩ := bind_some hm3
      split at hm4
      · rename_i hz
        cases e4 : ws[i.toNat]? with
        | none => rw [e4] at hm4; cases hm4
        | some u =>
          rw [e4] at hm4
          cases hm4
          cases q2
          have ha2 : α2[n]? = some a := x2.at_ ha
          obtain ⟨vs, h2, rv⟩ := r2.at_ n a ws ha2 e3
          obtain ⟨y, hy, ry⟩ := rws_get rv e4
          have hl := (List.getElem?_eq_some_iff.mp hy).1
          refine ⟨a, vs, i, i.toNat, y, rfl, rfl, h2, by omega, by omega, ?_, hy, ?_⟩
          · exact seqIndex_of hz.1 (by omega)
          · have x3 : Ext α2 H2 α2 (upd H2 a (.lst (vs.eraseIdx i.toNat))) := ext_set ha2
            exact q α2 _ _ ((x1.trans x2).trans x3) (r2.set ha2 (rws_erase _ rv)) (x3.rw r2 ry)
      · cases hm4
    · cases hm3
  · cases hm2
theorem de_index (hu : X.A.units + 65 < cLine) (ho : DE X o mo) (he : DE X e me)
    (hbase : attributeBase o "index" X.env (eval o X.env) = eval o X.env := by rfl)
    (hfew : ((backTo cpos (starEach [e] X.env)).all (fun x => !x.1) && (backToKw cpos (keywordEach [] X.env)).all (fun x => x.1.isSome)
      && decide ([e].length + ([] : List Keyword).length + (if ([] : List Keyword).isEmpty then 0 else 1) < 30)) = true := by rfl)
    (hline : (apos.endLine == cpos.line) = true := by rfl) (hs : starEach [e] X.env = (false, eval e X.env) :: starEach [] X.env := by rfl) :
    DE X (.Call (.Attribute o "index" apos) [e] [] cpos) (mBin fIndex mo me) := by
  refine ⟨peMono (pe_bm PySem.F.plainAttrs_list PySem.F.slot_list_index PySem.F.type_list_index (mt_indexD hu) ho.run (pa_cons he.run pa_nil hs) hbase hfew hline hs (by rfl)) fun σ H Q h => ?_⟩
  obtain ⟨α, ξ, S, δ, w, S', rs, re, hm, q⟩ := h
  obtain ⟨⟨w1, S1⟩, e1, hm2⟩ := bind_some hm
  obtain ⟨⟨w2, S2⟩, e2, hm3⟩ := bind_some hm2
  refine tD_go rs re e1 fun α1 v1 H1 x1 r1 q1 re1 => ?_
  simp only at hm3
  unfold fIndex at hm3
  split at hm3
  · rename_i ds x
    split at hm3
    · rename_i hs
      obtain ⟨s1, s2⟩ := Bool.and_eq_true_iff.mp hs
      obtain ⟨a, vs, rfl, ha, ra⟩ := rdM_ok r1 q1 (show rdM S1 (.d (.list ds)) = some (ds.map .d) from rfl)
      refine ⟨.inl ⟨rfl, _, SqL.of ha⟩, ?_⟩
      refine tD_go r1 re1 e2 fun α2 v2 H2 x2 r2 q2 re2 => ?_
      cases e5 : ds.findIdx? fun z => PyData.eqv z x with
      | none => rw [e5] at hm3; cases hm3
      | some j =>
        rw [e5] at hm3
        have q1' := x2.rw r1 q1
        obtain ⟨hj, hz, hn⟩ := List.findIdx?_eq_some_iff_getElem.mp e5
        refine ⟨a, v2, x, ds, j, ds[j], rfl, rfl, RD.dp _ _ q1', RD.dp _ _ q2, s1, s2, List.getElem?_eq_getElem hj, hz, fun m z' hm hz' => ?_, post_here r2 hm3 (q.ext (x1.trans x2)) (RD.int _)⟩
        obtain ⟨hm', e6⟩ := List.getElem?_eq_some_iff.mp hz'
        have := hn m hm
        rw [e6] at this
        simpa using this
    · cases hm3
  · cases hm3
end
/-! ### the module's constants -/
theorem de_glob {X : Cx} {x : Str} {pos : Pos} {v : V} {u : Value} {d : PyData} (hg : Gl X x) (hm : X.mg x = some u) (r : RelV v u) (h : ∀ M H, RD X.K M H v d) (hd : (x == ("__debug__" : Str)) = false := by decide) : DE X (.Name x pos) (mC d) := by
  refine ⟨peMono (pe_glob hg hm r hd) fun σ H Q h' => ?_⟩
  obtain ⟨α, ξ, S, δ, w, S', rs, re, hm, q⟩ := h'
  cases hm
  exact q α v H Ext.refl rs (h _ _)
/-! ### calls of defs -/
/-- what a def does with data, as a promise -/
def spD (K : PySem.W.Frag) (n : Nat) (g : FC) : Sp := fun vs H Q _ => vs.length = n ∧ ∃ α ξ S ws w S', RS K α ξ S H ∧ RWs K α ξ H vs ws ∧ g ws S = some (w, S') ∧ Post K α ξ H S' w Q
/-- the def x keeps it -/
structure Kn (P : Program) (w : World) (K : PySem.W.Frag) (mg : Str → Option Value) (base : Heap) (k : Nat) (x : Str) (ps : List Str) (g : FC) : Prop where
  ex : ∃ (f : Addr) (fd : FuncData), mg x = some (.ref f) ∧ PySem.W.keepIn K (.ref f) = true ∧ Binds K fd ps [] ∧ FnOk P w K mg base CX0 k f fd ps (spD K ps.length g)
section
variable {P : Program} {w : World} {K : PySem.W.Frag} {mg : Str → Option Value} {base : Heap} {j k : Nat} {x : Str} {ps : List Str} {g g' : FC}
theorem Kn.mono (h : Kn P w K mg base j x ps g) (l : j ≤ k) : Kn P w K mg base k x ps g := by
  obtain ⟨f, fd, h1, h2, h3, h4⟩ := h.ex
  exact ⟨f, fd, h1, h2, h3, h4.mono l⟩
/-- by another function that says less -/
theorem Kn.imp (h : Kn P w K mg base k x ps g) (l : ∀ ws S r, ws.length = ps.length → g' ws S = some r → g ws S = some r) : Kn P w K mg base k x ps g' := by
  obtain ⟨f, fd, h1, h2, h3, h4⟩ := h.ex
  refine ⟨f, fd, h1, h2, h3, h4.imp fun vs H Q E q => ?_⟩
  obtain ⟨hl, α, ξ, S, ws, w, S', r, rv, e, p⟩ := q
  exact ⟨hl, α, ξ, S, ws, w, S', r, rv, l ws S _ (by rw [← Paired.length rv]; exact hl) e, p⟩
end
section
variable {X : Cx} {k : Nat} {x : Str} {ps : List Str} {g : FC} {p pos : Pos} {e : Expr} {es : List Expr} {mr : MA}
theorem tCall_of {σ : L2.St} {H : Hp} {Q : VK} {n : Nat} (h : tD X.K (mCall g mr) σ H Q) (hn : ∀ δ S ws S', mr δ S = some (ws, S') → ws.length = n) : tCall (spD X.K n g) [] E0 (tDA X.K mr) σ H Q := by
  obtain ⟨α, ξ, S, δ, w, S', rs, re, hm, q⟩ := h
  obtain ⟨⟨ws, S1⟩, e1, hm2⟩ := bind_some hm
  refine tDA_go rs re e1 fun α1 vs H1 x1 r1 q1 re1 => ?_
  rw [List.append_nil]
  exact ⟨by rw [Paired.length q1]; exact hn _ _ _ _ e1, α1, ξ, S1, ws, w, S', r1, q1, hm2, q.ext x1⟩
/-- an argument list of this length -/
def LenA (m : MA) (n : Nat) : Prop := ∀ δ S ws S', m δ S = some (ws, S') → ws.length = n
theorem lenA_nil : LenA mNil 0 := fun δ S ws S' h => by cases h; rfl
theorem lenA_cons {a : ME} {r : MA} {n : Nat} (h : LenA r n) : LenA (mCons a r) (n + 1) := fun δ S ws S' e => by
  obtain ⟨⟨w1, S1⟩, e1, e⟩ := bind_some e
  obtain ⟨⟨w2, S2⟩, e2, e⟩ := bind_some e
  cases e
  exact congrArg (· + 1) (h _ _ _ _ e2)
theorem de_call (G : Kn X.prog X.w X.K X.mg X.base k x ps g) (hr : Room k X.A) (hg : Gl X x) (ha : DA X (e :: es) mr) (hl : LenA mr ps.length) (hdb : (x == ("__debug__" : Str)) = false := by decide)
    (he : starEach (e :: es) X.env = (false, eval e X.env) :: starEach es X.env := by rfl) (hpl : (backTo pos (starEach es X.env)).any (·.1) = false := by rfl) :
    DE X (.Call (.Name x p) (e :: es) [] pos) (mCall g mr) := by
  obtain ⟨f, fd, hm, hk, hb, F⟩ := G.ex
  exact ⟨peMono (pe_call F hr hg hm hk hb .nil pass0 ha.run hdb he hpl) fun σ H Q h => tCall_of h hl⟩
theorem de_call0 (G : Kn X.prog X.w X.K X.mg X.base k x [] g) (hr : Room k X.A) (hg : Gl X x) (hdb : (x == ("__debug__" : Str)) = false := by decide) : DE X (.Call (.Name x p) [] [] pos) (mCall g mNil) := by
  obtain ⟨f, fd, hm, hk, hb, F⟩ := G.ex
  refine ⟨peMono (pe_call0 F hr hg hm hk hb .nil pass0 hdb) fun σ H Q h => ?_⟩
  obtain ⟨α, ξ, S, δ, w, S', rs, re, hm, q⟩ := h
  obtain ⟨⟨ws, S1⟩, e1, hm2⟩ := bind_some hm
  cases e1
  exact ⟨rfl, α, ξ, S, [], w, S', rs, .nil, hm2, q⟩
end
end K15
set_option Elab.async false
set_option linter.all false
set_option maxRecDepth 100000
set_option maxHeartbeats 4000000
set_option autoImplicit false
namespace K15
open PySem PySem.Spec PyProof.Rows L2
section
variable {K : PySem.W.Frag} {α α' ξ ξ' : List Addr} {H H' : Hp} {S S' : Sto} {v : V} {w : Wv}
/-- .. with more that is left out, all new -/
theorem Ext.rdx (a : Ext α H α' H') (hx : ∀ c ∈ ξ', c ∈ ξ ∨ H c = none) (r : RS K α ξ S H) {d : PyData} (h : RD K (Mb α ξ) H v d) : RD K (Mb α' ξ') H' v d :=
  RD.mono (fun c vs h1 h2 => ⟨a.keep c _ h1 fun m => h2 (.inl m), fun m => m.elim (fun m => a.out h1 (fun m => h2 (.inl m)) m) fun m => (hx c m).elim (fun m => h2 (.inr m)) fun n => by rw [h1] at n; cases n⟩) (fun c vs h => a.tup r h) d v h
theorem Ext.rwx (a : Ext α H α' H') (hx : ∀ c ∈ ξ', c ∈ ξ ∨ H c = none) (r : RS K α ξ S H) (h : RW K α ξ H v w) : RW K α' ξ' H' v w := by
  cases w with
  | d x => exact a.rdx hx r h
  | ref n =>
    obtain ⟨c, e, q⟩ := h
    exact ⟨c, e, a.at_ q⟩
  | ty n => exact h
  | tys ns =>
    obtain ⟨c, e, q⟩ := h
    exact ⟨c, e, a.keep c _ q fun m => r.ntup q (.inl m)⟩
  | scr ns =>
    obtain ⟨c, e, q⟩ := h
    refine ⟨c, e, ?_⟩
    rcases q with ⟨q, n⟩ | ⟨o, q⟩ | q
    · exact .inl ⟨a.keep c _ q fun m => n (.inl m), fun m => m.elim (fun m => a.out q (fun m => n (.inl m)) m) fun m => (hx c m).elim (fun m => n (.inr m)) fun z => by rw [q] at z; cases z⟩
    · exact .inr (.inl ⟨o, a.keep c _ q fun m => r.nfrz q (.inl m)⟩)
    · exact .inr (.inr q)
end
/-! ### what is walked -/
/-- the i-th: some (some w); the end: some none; neither: none -/
abbrev Gt := Sto → Nat → Option (Option Wv)
abbrev MI := DEnv → Sto → Option ((Nat × Gt) × Sto)
def SrcOk (K : PySem.W.Frag) (α ξ : List Addr) (H : Hp) (J : It) (get : Gt) : Prop := ∀ α1 ξ1 S1 H1, Ext α H α1 H1 → (∀ c ∈ ξ1, c ∈ ξ ∨ H c = none) → RS K α1 ξ1 S1 H1 → ∀ i,
  (∀ w, get S1 i = some (some w) → J.go i H1 ∧ ∀ v H', J.yld i H1 v H' → Ext α1 H1 α1 H' ∧ RS K α1 ξ1 S1 H' ∧ RW K α1 ξ1 H' v w) ∧ (get S1 i = some none → J.stop i H1)
def tDI (K : PySem.W.Frag) (m : MI) : TI := fun σ H R => ∃ α ξ S δ s S', RS K α ξ S H ∧ RE K α ξ H σ δ ∧ m δ S = some (s, S') ∧ ∀ α1 H1 J, Ext α H α1 H1 → RS K α1 ξ S' H1 → SrcOk K α1 ξ H1 J s.2 → R J H1
structure DI (X : Cx) (tg iter : Expr) (m : MI) : Prop where
  run : PI X tg iter (tDI X.K m)
theorem piMono {X : Cx} {tg iter : Expr} {t t' : TI} (h : PI X tg iter t) (k : ∀ σ H Q, t' σ H Q → t σ H Q) : PI X tg iter t' := ⟨fun pins s σ H Q I q => h.run pins s σ H Q I (k σ H Q q)⟩
/-- the items of a list as it stands -/
def gL (w : Wv) : Gt := fun S i => (rdL S w).map fun ws => ws[i]?
def gT (ds : List PyData) : Gt := fun _ i => some ((ds[i]?).map .d)
def gR (lo : Int) (n : Nat) : Gt := fun _ i => some (if i < n then some (.d (.int (lo + i))) else none)
def mIterL (a : ME) : MI := fun δ S => (a δ S).bind fun p => (rdL p.2 p.1).map fun ws => ((ws.length, gL p.1), p.2)
def mIterT (a : ME) : MI := fun δ S => (a δ S).bind fun p => (rdT p.1).map fun ds => ((ds.length, gT ds), p.2)
def mRange1 (a : ME) : MI := fun δ S => (a δ S).bind fun p => match p.1 with
  | .d (.int n) => if -(2 ^ 62) ≤ n ∧ n < 2 ^ 62 then some ((n.toNat, gR 0 n.toNat), p.2) else none
  | _ => none
def mRange2 (a b : ME) : MI := fun δ S => (a δ S).bind fun p => (b δ p.2).bind fun q => match p.1, q.1 with
  | .d (.int i), .d (.int j) => if -(2 ^ 62) ≤ i ∧ i < 2 ^ 62 ∧ -(2 ^ 62) ≤ j ∧ j < 2 ^ 62 then some (((j - i).toNat, gR i (j - i).toNat), q.2) else none
  | _, _ => none
section
variable {X : Cx} {tg a b : Expr} {ma mb : ME} {K : PySem.W.Frag}
/-- a list stays to be read -/
theorem rdL_src {α ξ : List Addr} {S : Sto} {H : Hp} {v : V} {w : Wv} (r : RS K α ξ S H) (h : RW K α ξ H v w) {ws : List Wv} (e : rdL S w = some ws) : ∃ a, v = .ref a ∧ (∃ vs, SqL K H a vs) ∧
    ∀ α1 ξ1 S1 H1, Ext α H α1 H1 → (∀ c ∈ ξ1, c ∈ ξ ∨ H c = none) → RS K α1 ξ1 S1 H1 → ∃ vs us, SqL K H1 a vs ∧ RWs K α1 ξ1 H1 vs us ∧ rdL S1 w = some us := by
  obtain ⟨a, vs, rfl, hs, rv⟩ := rdL_ok r h e
  refine ⟨a, rfl, ⟨vs, hs⟩, fun α1 ξ1 S1 H1 x hx r1 => ?_⟩
  have q := x.rwx hx r h
  have e1 : ∃ us, rdL S1 w = some us := by
    cases w with
    | ref n =>
      obtain ⟨c, _, q⟩ := q
      have hi : n < S1.length := by rw [← r1.len]; exact (List.getElem?_eq_some_iff.mp q).1
      exact ⟨S1[n], List.getElem?_eq_getElem hi⟩
    | d y =>
      cases y with
      | list ds => exact ⟨_, rfl⟩
      | _ => cases e
    | scr ns => exact ⟨_, rfl⟩
    | _ => cases e
  obtain ⟨us, e1⟩ := e1
  obtain ⟨a', vs', e2, hs', rv'⟩ := rdL_ok r1 q e1
  cases e2
  exact ⟨vs', us, hs', rv', e1⟩
theorem sqL_fun {H : Hp} {c : Addr} {xs : List V} (h : SqL K H c xs) : True := trivial
theorem di_list (ha : DE X a ma) : DI X tg a (mIterL ma) := by
  refine ⟨piMono (pi_list ha.run) fun σ H R h => ?_⟩
  obtain ⟨α, ξ, S, δ, s, S', rs, re, hm, q⟩ := h
  obtain ⟨⟨w1, S1⟩, e1, hm2⟩ := bind_some hm
  refine tD_go rs re e1 fun α1 v1 H1 x1 r1 q1 re1 => ?_
  cases e : rdL S1 w1 with
  | none => simp only [e] at hm2; cases hm2
  | some ws =>
    simp only [e] at hm2
    cases hm2
    obtain ⟨c, rfl, hvs, k⟩ := rdL_src r1 q1 e
    refine ⟨c, rfl, hvs, q α1 H1 _ x1 r1 fun α2 ξ2 S2 H2 x2 hx r2 i => ?_⟩
    obtain ⟨vs, us, hs, rv, eu⟩ := k α2 ξ2 S2 H2 x2 hx r2
    have hlen := Paired.length rv
    refine ⟨fun w hw => ?_, fun hw => ?_⟩
    · have hw2 : us[i]? = some w := by
        unfold gL at hw
        simp only at hw
        rw [eu] at hw
        exact Option.some.inj hw
      obtain ⟨u, hu, ru⟩ := rws_get rv hw2
      refine ⟨⟨vs, u, hs, hu⟩, fun v H' y => ?_⟩
      obtain ⟨rfl, y⟩ := y
      have := y vs hs
      rw [hu] at this
      cases this
      exact ⟨Ext.refl, r2, ru⟩
    · have hw2 : us[i]? = none := by
        unfold gL at hw
        simp only at hw
        rw [eu] at hw
        exact Option.some.inj hw
      exact ⟨vs, hs, by rw [hlen]; exact List.getElem?_eq_none_iff.mp hw2⟩
theorem di_tup (ha : DE X a ma) : DI X tg a (mIterT ma) := by
  refine ⟨piMono (pi_tup ha.run) fun σ H R h => ?_⟩
  obtain ⟨α, ξ, S, δ, s, S', rs, re, hm, q⟩ := h
  obtain ⟨⟨w1, S1⟩, e1, hm2⟩ := bind_some hm
  refine tD_go rs re e1 fun α1 v1 H1 x1 r1 q1 re1 => ?_
  cases e : rdT w1 with
  | none => simp only [e] at hm2; cases hm2
  | some ds =>
    simp only [e] at hm2
    cases hm2
    obtain ⟨c, vs, rfl, hvs, rd⟩ := rdT_ok q1 e
    refine ⟨c, rfl, ⟨vs, hvs⟩, q α1 H1 _ x1 r1 fun α2 ξ2 S2 H2 x2 hx r2 i => ?_⟩
    have hs := x2.tup r1 hvs
    have rd2 : RDs X.K (Mb α2 ξ2) H2 vs ds := rds_of_rws ((rws_of_rds rd).mono fun _ _ z => x2.rwx hx r1 z)
    have hlen := rd.length
    refine ⟨fun w hw => ?_, fun hw => ?_⟩
    · have hw : (ds[i]?).map Wv.d = some w := Option.some.inj hw
      cases ed : ds[i]? with
      | none => rw [ed] at hw; cases hw
      | some d =>
        rw [ed] at hw
        cases hw
        obtain ⟨u, hu, ru⟩ := rd2.get ed
        refine ⟨⟨vs, u, hs, hu⟩, fun v H' y => ?_⟩
        obtain ⟨rfl, y⟩ := y
        have := y vs hs
        rw [hu] at this
        cases this
        exact ⟨Ext.refl, r2, ru⟩
    · have hw : (ds[i]?).map Wv.d = none := Option.some.inj hw
      have hw2 : ds[i]? = none := by
        cases ed : ds[i]? with
        | none => rfl
        | some d => rw [ed] at hw; cases hw
      exact ⟨vs, hs, by rw [hlen]; exact List.getElem?_eq_none_iff.mp hw2⟩
theorem src_range {α ξ : List Addr} {H : Hp} {lo : Int} {n : Nat} : SrcOk K α ξ H (Itr lo n) (gR lo n) := fun α2 ξ2 S2 H2 x2 hx r2 i => by
  unfold gR
  refine ⟨fun w hw => ?_, fun hw => ?_⟩
  all_goals replace hw := Option.some.inj hw
  · split at hw
    · rename_i hi
      cases hw
      refine ⟨hi, fun v H' y => ?_⟩
      obtain ⟨rfl, rfl⟩ := y
      exact ⟨Ext.refl, r2, RD.int _⟩
    · cases hw
  · split at hw
    · cases hw
    · exact Nat.le_of_not_lt (by assumption)
theorem di_range1 {p pos : Pos} (hg : Gl X "range") (hm : X.mg "range" = none) (ha : DE X a ma) (hs : starEach [a] X.env = [(false, eval a X.env)] := by rfl) : DI X tg (.Call (.Name "range" p) [a] [] pos) (mRange1 ma) := by
  refine ⟨piMono (pi_range1 hg hm (pa_cons ha.run pa_nil (by rw [hs]; rfl)) hs) fun σ H R h => ?_⟩
  obtain ⟨α, ξ, S, δ, s, S', rs, re, hm, q⟩ := h
  obtain ⟨⟨w1, S1⟩, e1, hm2⟩ := bind_some hm
  refine tD_go rs re e1 fun α1 v1 H1 x1 r1 q1 re1 => ?_
  simp only at hm2
  split at hm2
  · rename_i n
    split at hm2
    · rename_i hc
      cases hm2
      cases q1
      exact ⟨n, rfl, hc.1, hc.2, q α1 H1 _ x1 r1 src_range⟩
    · cases hm2
  · cases hm2
theorem di_range2 {p pos : Pos} (hg : Gl X "range") (hm : X.mg "range" = none) (ha : DE X a ma) (hb : DE X b mb) (hs : starEach [a, b] X.env = [(false, eval a X.env), (false, eval b X.env)] := by rfl) (hs2 : starEach [b] X.env = [(false, eval b X.env)] := by rfl) :
    DI X tg (.Call (.Name "range" p) [a, b] [] pos) (mRange2 ma mb) := by
  refine ⟨piMono (pi_range2 hg hm (pa_cons ha.run (pa_cons hb.run pa_nil (by rw [hs2]; rfl)) (by rw [hs, hs2])) hs hs2) fun σ H R h => ?_⟩
  obtain ⟨α, ξ, S, δ, s, S', rs, re, hm, q⟩ := h
  obtain ⟨⟨w1, S1⟩, e1, hm2⟩ := bind_some hm
  obtain ⟨⟨w2, S2⟩, e2, hm3⟩ := bind_some hm2
  refine tD_go rs re e1 fun α1 v1 H1 x1 r1 q1 re1 => ?_
  refine tD_go r1 re1 e2 fun α2 v2 H2 x2 r2 q2 re2 => ?_
  simp only at hm3
  split at hm3
  · rename_i i j
    split at hm3
    · rename_i hc
      cases hm3
      cases q1
      cases q2
      exact ⟨i, j, rfl, hc, q α2 H2 _ (x1.trans x2) r2 src_range⟩
    · cases hm3
  · cases hm3
end
/-! ### targets that are names -/
def setsV : L2.St → List (Nat × V) → L2.St
  | σ, [] => σ
  | σ, (i, v) :: r => setsV (σ.set i (some v)) r
def setsD : DEnv → List (Nat × Wv) → DEnv
  | δ, [] => δ
  | δ, (i, w) :: r => setsD (δ.set i (some w)) r
abbrev MN := Wv → Option (List (Nat × Wv))
def nName (i : Nat) : MN := fun w => some [(i, w)]
def nNil : List PyData → Option (List (Nat × Wv))
  | [] => some []
  | _ => none
def nCons (a : MN) (r : List PyData → Option (List (Nat × Wv))) : List PyData → Option (List (Nat × Wv))
  | d :: ds => (a (.d d)).bind fun l => (r ds).map fun m => l ++ m
  | [] => none
def nTup (r : List PyData → Option (List (Nat × Wv))) : MN := fun w => (rdT w).bind r
/-- l' has the values of l -/
def RL (K : PySem.W.Frag) (α ξ : List Addr) (H : Hp) : List (Nat × V) → List (Nat × Wv) → Prop := Paired fun p q => p.1 = q.1 ∧ RW K α ξ H p.2 q.2
theorem RE.sets {K : PySem.W.Frag} {α ξ : List Addr} {H : Hp} {l' : List (Nat × V)} {l : List (Nat × Wv)} (h : RL K α ξ H l' l) : ∀ {σ : L2.St} {δ : DEnv}, RE K α ξ H σ δ → RE K α ξ H (setsV σ l') (setsD δ l) := by
  induction h with
  | nil => intro σ δ re; exact re
  | @cons a b l₁ l₂ r t ih =>
    intro σ δ re
    obtain ⟨i, v⟩ := a
    obtain ⟨j, w⟩ := b
    obtain ⟨e, q⟩ := r
    simp only at e q
    subst e
    exact ih (re.set i q)
def tDN (K : PySem.W.Frag) (m : MN) : TG := fun v σ H Q => ∃ α ξ S w l, RS K α ξ S H ∧ RW K α ξ H v w ∧ m w = some l ∧ ∀ l', RL K α ξ H l' l → Q (setsV σ l') H
def tDNs (K : PySem.W.Frag) (m : List PyData → Option (List (Nat × Wv))) : TGs := fun vs σ H Q => ∃ α ξ S ds l, RS K α ξ S H ∧ RDs K (Mb α ξ) H vs ds ∧ m ds = some l ∧ ∀ l', RL K α ξ H l' l → Q (setsV σ l') H
structure DN (X : Cx) (tg : Expr) (m : MN) : Prop where
  run : PG X tg (tDN X.K m)
structure DNs (X : Cx) (tgs : List Expr) (m : List PyData → Option (List (Nat × Wv))) : Prop where
  run : PGs X tgs (tDNs X.K m)
theorem pgMono {X : Cx} {tg : Expr} {t t' : TG} (h : PG X tg t) (k : ∀ v σ H Q, t' v σ H Q → t v σ H Q) : PG X tg t' := ⟨fun pins s σ H v u Q I r q => h.run pins s σ H v u Q I r (k v σ H Q q)⟩
theorem pgsMono {X : Cx} {tgs : List Expr} {t t' : TGs} (h : PGs X tgs t) (k : ∀ v σ H Q, t' v σ H Q → t v σ H Q) : PGs X tgs t' := ⟨fun pins s σ H v u Q I r q => h.run pins s σ H v u Q I r (k v σ H Q q)⟩
section
variable {X : Cx} {pos : Pos}
theorem setsV_app : ∀ (l m : List (Nat × V)) (σ : L2.St), setsV σ (l ++ m) = setsV (setsV σ l) m
  | [], _, _ => rfl
  | (i, v) :: l, m, σ => setsV_app l m _
theorem RL.app {K : PySem.W.Frag} {α ξ : List Addr} {H : Hp} {l' m' : List (Nat × V)} {l m : List (Nat × Wv)} (h1 : RL K α ξ H l' l) (h2 : RL K α ξ H m' m) : RL K α ξ H (l' ++ m') (l ++ m) := by
  induction h1 with
  | nil => exact h2
  | cons r t ih => exact .cons r ih
theorem dn_name {i : Nat} {x : Str} (hN : X.N.Nodup) (hi : X.N[i]? = some x) (hx : Loc X.env.scope x) (hf : X.fn x = true ∨ X.env.scope.names.lookup x = some .local := by first | exact .inl rfl | exact .inr rfl | assumption) : DN X (.Name x pos) (nName i) := by
  refine ⟨pgMono (pg_name hN hi hx hf) fun v σ H Q h => ?_⟩
  obtain ⟨α, ξ, S, w, l, rs, rw, hm, q⟩ := h
  cases hm
  exact q [(i, v)] (.cons ⟨rfl, rw⟩ .nil)
theorem dns_nil : DNs X [] nNil := by
  refine ⟨pgsMono pgs_nil fun v σ H Q h => ?_⟩
  obtain ⟨α, ξ, S, ds, l, rs, rd, hm, q⟩ := h
  unfold nNil at hm
  split at hm
  · cases hm
    cases rd
    exact ⟨rfl, q [] .nil⟩
  · cases hm
theorem dns_cons {e : Expr} {es : List Expr} {a : MN} {r : List PyData → Option (List (Nat × Wv))} (h1 : DN X e a) (h2 : DNs X es r) (hs : (assignEach (e :: es) X.env).map (·.2) = assign e X.env :: (assignEach es X.env).map (·.2) := by rfl) : DNs X (e :: es) (nCons a r) := by
  refine ⟨pgsMono (pgs_cons h1.run h2.run hs) fun vs σ H Q h => ?_⟩
  obtain ⟨α, ξ, S, ds, l, rs, rd, hm, q⟩ := h
  unfold nCons at hm
  split at hm
  · rename_i d ds
    obtain ⟨l1, e1, hm2⟩ := bind_some hm
    cases e2 : r ds with
    | none => rw [e2] at hm2; cases hm2
    | some l2 =>
      rw [e2] at hm2
      cases hm2
      cases rd with
      | cons rd1 rd2 =>
        refine ⟨_, _, rfl, α, ξ, S, .d d, l1, rs, rd1, e1, fun l1' k1 => ?_⟩
        refine ⟨α, ξ, S, ds, l2, rs, rd2, e2, fun l2' k2 => ?_⟩
        rw [← setsV_app]
        exact q _ (k1.app k2)
  · cases hm
theorem nLen {r : List PyData → Option (List (Nat × Wv))} {n : Nat} : True := trivial
/-- how many a target takes -/
def LenN (r : List PyData → Option (List (Nat × Wv))) (n : Nat) : Prop := ∀ ds l, r ds = some l → ds.length = n
theorem lenN_nil : LenN nNil 0 := fun ds l h => by
  cases ds with
  | nil => rfl
  | cons a b => cases h
theorem lenN_cons {a : MN} {r : List PyData → Option (List (Nat × Wv))} {n : Nat} (h : LenN r n) : LenN (nCons a r) (n + 1) := fun ds l e => by
  cases ds with
  | nil => cases e
  | cons d ds =>
    obtain ⟨l1, e1, e⟩ := bind_some (show (a (.d d)).bind (fun l => (r ds).map fun m => l ++ m) = some l from e)
    cases e2 : r ds with
    | none => rw [e2] at e; cases e
    | some m => exact congrArg (· + 1) (h ds m e2)
theorem dn_tup {es : List Expr} {k : Nat} {r : List PyData → Option (List (Nat × Wv))} {n : Nat} (hc : X.calm = true) (h : DNs X es r) (hl : LenN r n)
    (hn : (assignEach es X.env).length = n := by rfl) (hst : (assignEach es X.env).findIdx? (·.1) = none := by rfl) : DN X (.Tuple es k pos) (nTup r) := by
  refine ⟨pgMono (pg_tup hc h.run hn hst) fun v σ H Q h => ?_⟩
  obtain ⟨α, ξ, S, w, l, rs, rw, hm, q⟩ := h
  obtain ⟨ds, e, hm2⟩ := bind_some hm
  obtain ⟨a, vs, rfl, ht, rd⟩ := rdT_ok rw e
  exact ⟨a, vs, rfl, ht, by rw [rd.length]; exact hl _ _ hm2, α, ξ, S, ds, l, rs, rd, hm2, q⟩
end
/-! ### comprehensions -/
def compG (get : Gt) (n : MN) (t : MT) (e : ME) (δ : DEnv) : Nat → Nat → Sto → List Wv → Option (List Wv × Sto)
  | 0, i, S, acc => match get S i with
    | some none => some (acc, S)
    | _ => none
  | f + 1, i, S, acc => match get S i with
    | none => none
    | some none => some (acc, S)
    | some (some w) => (n w).bind fun l => (t (setsD δ l) S).bind fun b => if b.1 then (e (setsD δ l) b.2).bind fun y => if acc.length < 1000000 then compG get n t e δ f (i + 1) y.2 (acc ++ [y.1]) else none else compG get n t e δ f (i + 1) b.2 acc
def mComp (it : MI) (n : MN) (t : MT) (e : ME) (vs : List Nat) : MF := fun δ S => (it δ S).bind fun p => compG p.1.2 n t e (wipeD δ vs) p.1.1 0 p.2 []
def mtYes : MT := fun _ S => some (true, S)
structure DTs (X : Cx) (ifs : List Expr) (m : MT) : Prop where
  run : PTs X ifs (tDT X.K m)
theorem dts_nil {X : Cx} : DTs X [] mtYes := ⟨⟨fun pins s σ H Q I h => pts_nil.run pins s σ H Q I (by
  obtain ⟨α, ξ, S, δ, b, S', rs, re, hm, q⟩ := h
  cases hm
  exact q α H Ext.refl rs)⟩⟩
theorem dts_one {X : Cx} {c : Expr} {m : MT} (h : DT X c m) : DTs X [c] m := ⟨pts_one h.run⟩
section
variable {K : PySem.W.Frag}
/-- the list that was being made goes out of what is left out -/
theorem RS.drop {α ξ : List Addr} {S : Sto} {H : Hp} {D : Addr} {acc : List V} {ws : List Wv} (hξ : D ∉ ξ) (r : RS K α (D :: ξ) S H) (hD : H D = some (.lst acc)) (h : RWs K α (D :: ξ) H acc ws) :
    RS K α ξ S (fun b => if b = D then none else H b) ∧ RWs K α ξ (fun b => if b = D then none else H b) acc ws ∧ upd (fun b => if b = D then none else H b) D (.lst acc) = H := by
  have hx : D ∉ α ∧ True := ⟨r.apart D List.mem_cons_self, trivial⟩
  have ne : ∀ {c : Addr} {o : HO}, H c = some o → c ≠ D → (fun b => if b = D then none else H b) c = some o := fun {c o} h1 h2 => by
    show (if c = D then none else H c) = some o
    rw [if_neg h2]; exact h1
  have nl : ∀ {c : Addr} {o : HO}, H c = some o → (∀ xs, o ≠ .lst xs) → c ≠ D := fun {c o} h1 h2 e => h2 acc (Option.some.inj (h1.symm.trans (by rw [e]; exact hD)))
  have rd : ∀ {v : V} {d : PyData}, RD K (Mb α (D :: ξ)) H v d → RD K (Mb α ξ) (fun b => if b = D then none else H b) v d := fun {v d} q => by
    refine RD.mono (fun c vs h1 h2 => ⟨ne h1 fun e => h2 (.inr (by rw [e]; exact List.mem_cons_self)), fun m => h2 (m.elim .inl fun m => .inr (List.mem_cons_of_mem _ m))⟩) (fun c vs q => ?_) d v q
    rcases q with (q | ⟨o, q⟩) | q
    · exact .inl (.inl (ne q (nl q fun _ z => by cases z)))
    · exact .inl (.inr ⟨o, ne q (nl q fun _ z => by cases z)⟩)
    · exact .inr q
  have rw : ∀ {v : V} {w : Wv}, RW K α (D :: ξ) H v w → RW K α ξ (fun b => if b = D then none else H b) v w := fun {v w} q => by
    cases w with
    | d x => exact rd q
    | ref n => exact q
    | ty n => exact q
    | tys ns =>
      obtain ⟨c, e, q⟩ := q
      exact ⟨c, e, ne q (nl q fun _ z => by cases z)⟩
    | scr ns =>
      obtain ⟨c, e, q⟩ := q
      refine ⟨c, e, ?_⟩
      rcases q with ⟨q, n⟩ | ⟨o, q⟩ | q
      · exact .inl ⟨ne q fun e => n (.inr (by rw [e]; exact List.mem_cons_self)), fun m => n (m.elim .inl fun m => .inr (List.mem_cons_of_mem _ m))⟩
      · exact .inr (.inl ⟨o, ne q (nl q fun _ z => by cases z)⟩)
      · exact .inr (.inr q)
  refine ⟨⟨r.len, r.nd, fun i a us h1 h2 => ?_, fun a ha => ?_, fun a ha => r.apart a (List.mem_cons_of_mem _ ha)⟩, h.mono fun _ _ q => rw q, ?_⟩
  · obtain ⟨vs, e, q⟩ := r.at_ i a us h1 h2
    exact ⟨vs, ne e fun z => hx.1 (by rw [← z]; exact List.mem_of_getElem? h1), q.mono fun _ _ q => rw q⟩
  · obtain ⟨us, e⟩ := r.ex a (List.mem_cons_of_mem _ ha)
    exact ⟨us, ne e fun z => hξ (by rw [← z]; exact ha)⟩
  · funext b
    by_cases e : b = D
    · rw [e, upd_same, hD]
    · rw [upd_ne e]
      show (if b = D then none else H b) = H b
      rw [if_neg e]
end
end K15
set_option Elab.async false
set_option linter.all false
set_option maxRecDepth 100000
set_option maxHeartbeats 4000000
set_option autoImplicit false
namespace K15
open PySem PySem.Spec PyProof.Rows L2
theorem wipe_set {i : Nat} {o : Option V} : ∀ {vs : List Nat} {σ : L2.St}, i ∈ vs → L2.wipe (σ.set i o) vs = L2.wipe σ vs
  | [], _, h => by simp at h
  | v :: vs, σ, h => by
    show (L2.wipe (σ.set i o) vs).set v none = (L2.wipe σ vs).set v none
    by_cases hv : i ∈ vs
    · rw [wipe_set hv]
    · have e : i = v := by
        rcases List.mem_cons.mp h with e | h
        · exact e
        · exact absurd h hv
      subst e
      have key : ∀ (ws : List Nat) (σ : L2.St), (L2.wipe (σ.set i o) ws).set i none = (L2.wipe σ ws).set i none := by
        intro ws
        induction ws with
        | nil => intro σ; show (σ.set i o).set i none = σ.set i none; rw [List.set_set]
        | cons u us ih =>
          intro σ
          show ((L2.wipe (σ.set i o) us).set u none).set i none = ((L2.wipe σ us).set u none).set i none
          by_cases hu : u = i
          · subst hu
            rw [List.set_set, List.set_set]; exact ih σ
          · rw [List.set_comm _ _ hu, List.set_comm _ _ hu, ih]
      exact key vs σ
theorem wipe_wipe : ∀ {vs us : List Nat} {σ : L2.St}, (∀ i ∈ us, i ∈ vs) → L2.wipe (L2.wipe σ us) vs = L2.wipe σ vs
  | vs, [], σ, _ => rfl
  | vs, u :: us, σ, h => by
    show L2.wipe ((L2.wipe σ us).set u none) vs = _
    rw [wipe_set (h u List.mem_cons_self)]
    exact wipe_wipe fun i hi => h i (List.mem_cons_of_mem _ hi)
theorem wipe_sets : ∀ {l : List (Nat × V)} {vs : List Nat} {σ : L2.St}, (∀ p ∈ l, p.1 ∈ vs) → L2.wipe (setsV σ l) vs = L2.wipe σ vs
  | [], _, _, _ => rfl
  | (i, v) :: l, vs, σ, h => by
    show L2.wipe (setsV (σ.set i (some v)) l) vs = _
    rw [wipe_sets fun p hp => h p (List.mem_cons_of_mem _ hp)]
    exact wipe_set (h (i, v) List.mem_cons_self)
/-- the slots that a target stores to -/
def InN (m : MN) (vs : List Nat) : Prop := ∀ w l, m w = some l → ∀ p ∈ l, p.1 ∈ vs
def InNs (m : List PyData → Option (List (Nat × Wv))) (vs : List Nat) : Prop := ∀ ds l, m ds = some l → ∀ p ∈ l, p.1 ∈ vs
theorem inN_name {i : Nat} {vs : List Nat} (h : i ∈ vs) : InN (nName i) vs := fun w l e p hp => by
  cases e
  rw [List.mem_singleton.mp hp]
  exact h
theorem inN_nil {vs : List Nat} : InNs nNil vs := fun ds l e p hp => by
  unfold nNil at e
  split at e
  · cases e; simp at hp
  · cases e
theorem inN_cons {a : MN} {r : List PyData → Option (List (Nat × Wv))} {vs : List Nat} (h1 : InN a vs) (h2 : InNs r vs) : InNs (nCons a r) vs := fun ds l e p hp => by
  unfold nCons at e
  split at e
  · rename_i d ds
    obtain ⟨l1, e1, e⟩ := bind_some e
    cases e2 : r ds with
    | none => rw [e2] at e; cases e
    | some m =>
      rw [e2] at e
      cases e
      rcases List.mem_append.mp hp with hp | hp
      · exact h1 _ _ e1 p hp
      · exact h2 _ _ e2 p hp
  · cases e
theorem inN_tup {r : List PyData → Option (List (Nat × Wv))} {vs : List Nat} (h : InNs r vs) : InN (nTup r) vs := fun w l e p hp => by
  obtain ⟨ds, _, e⟩ := bind_some e
  exact h ds l e p hp
theorem RL.slots {K : PySem.W.Frag} {α ξ : List Addr} {H : Hp} {l' : List (Nat × V)} {l : List (Nat × Wv)} (h : RL K α ξ H l' l) {vs : List Nat} (hv : ∀ p ∈ l, p.1 ∈ vs) : ∀ p ∈ l', p.1 ∈ vs := by
  induction h with
  | nil => intro p hp; simp at hp
  | @cons a b l₁ l₂ r t ih =>
    intro p hp
    rcases List.mem_cons.mp hp with e | hp
    · rw [e, r.1]; exact hv b List.mem_cons_self
    · exact ih (fun p hp => hv p (List.mem_cons_of_mem _ hp)) p hp
theorem upd_ex {K : PySem.W.Frag} {α ξ : List Addr} {S : Sto} {H : Hp} {D : Addr} {us : List V} (hD : D ∈ ξ) (r : RS K α ξ S H) : (∀ v w, RW K α ξ H v w → RW K α ξ (upd H D (.lst us)) v w) ∧ RS K α ξ S (upd H D (.lst us)) := by
  obtain ⟨zs, hz⟩ := r.ex D hD
  have nl : ∀ {c : Addr} {o : HO}, H c = some o → (∀ xs, o ≠ .lst xs) → c ≠ D := fun {c o} h1 h2 e => h2 zs (Option.some.inj (h1.symm.trans (by rw [e]; exact hz)))
  have rd : ∀ {v : V} {d : PyData}, RD K (Mb α ξ) H v d → RD K (Mb α ξ) (upd H D (.lst us)) v d := fun {v d} q => by
    refine RD.mono (fun c vs h1 h2 => ⟨by rw [upd_ne (show c ≠ D from fun e => h2 (.inr (by rw [e]; exact hD)))]; exact h1, h2⟩) (fun c vs q => ?_) d v q
    rcases q with (q | ⟨o, q⟩) | q
    · exact .inl (.inl (by rw [upd_ne (nl q fun _ z => by cases z)]; exact q))
    · exact .inl (.inr ⟨o, by rw [upd_ne (nl q fun _ z => by cases z)]; exact q⟩)
    · exact .inr q
  have rw : ∀ v w, RW K α ξ H v w → RW K α ξ (upd H D (.lst us)) v w := fun v w q => by
    cases w with
    | d x => exact rd q
    | ref n => exact q
    | ty n => exact q
    | tys ns =>
      obtain ⟨c, e, q⟩ := q
      exact ⟨c, e, by rw [upd_ne (nl q fun _ z => by cases z)]; exact q⟩
    | scr ns =>
      obtain ⟨c, e, q⟩ := q
      refine ⟨c, e, ?_⟩
      rcases q with ⟨q, n⟩ | ⟨o, q⟩ | q
      · exact .inl ⟨by rw [upd_ne (show c ≠ D from fun e => n (.inr (by rw [e]; exact hD)))]; exact q, n⟩
      · exact .inr (.inl ⟨o, by rw [upd_ne (nl q fun _ z => by cases z)]; exact q⟩)
      · exact .inr (.inr q)
  refine ⟨rw, r.len, r.nd, fun i a ws h1 h2 => ?_, fun a ha => ?_, r.apart⟩
  · obtain ⟨vs, e, q⟩ := r.at_ i a ws h1 h2
    exact ⟨vs, by rw [upd_ne (show a ≠ D from fun e => r.apart D hD (by rw [← e]; exact List.mem_of_getElem? h1))]; exact e, q.mono fun _ _ q => rw _ _ q⟩
  · by_cases e : a = D
    · exact ⟨us, by rw [e]; exact upd_same⟩
    · obtain ⟨vs, q⟩ := r.ex a ha
      exact ⟨vs, by rw [upd_ne e]; exact q⟩
theorem tLc_of {K : PySem.W.Frag} {mi : MI} {mn : MN} {mt : MT} {me : ME} {vs : List Nat} (hin : InN mn vs) {σ : L2.St} {H : Hp} {Q : VK} (h : tDF K (mComp mi mn mt me vs) σ H Q) : tLc (tDI K mi) (tDN K mn) (tDT K mt) (tD K me) vs σ H Q := by
  obtain ⟨α, ξ, S, δ, res, S', rs, re, hm, q⟩ := h
  obtain ⟨⟨⟨n, get⟩, S1⟩, e1, hm2⟩ := bind_some hm
  refine ⟨α, ξ, S, δ, (n, get), S1, rs, re, e1, fun α1 H1 J x1 r1 src D hD => ?_⟩
  have hDξ : D ∉ ξ := fun m => r1.nnone hD (.inr m)
  have hx : ∀ c ∈ D :: ξ, c ∈ ξ ∨ H1 c = none := fun c hc => (List.mem_cons.mp hc).elim (fun e => .inr (by rw [e]; exact hD)) .inl
  have rD : RS K α1 (D :: ξ) S1 (upd H1 D (.lst [])) := by
    have r := r1.new (o := .lst []) hD
    have x : Ext α1 H1 α1 (upd H1 D (.lst [])) := ext_new hD
    refine ⟨r.len, r.nd, fun i a ws h1 h2 => ?_, fun a ha => ?_, fun a ha => ?_⟩
    · obtain ⟨us, e, z⟩ := r1.at_ i a ws h1 h2
      exact ⟨us, by rw [upd_ne (ne_of_none e hD)]; exact e, z.mono fun _ _ z => x.rwx hx r1 z⟩
    · rcases List.mem_cons.mp ha with e | ha
      · exact ⟨[], by rw [e]; exact upd_same⟩
      · exact r.ex a ha
    · rcases List.mem_cons.mp ha with e | ha
      · rw [e]; exact fun m => r1.nnone hD (.inl m)
      · exact r.apart a ha
  have reD : RE K α1 ξ H1 (L2.wipe σ vs) (wipeD δ vs) := RE.wipe (x1.re rs re) vs
  have neD : ∀ {a : Addr} {o : HO}, H1 a = some o → a ≠ D := fun h => ne_of_none h hD
  refine ⟨fun i m H2 => ∃ α2 S2 acc accW, Ext α1 H1 α2 H2 ∧ RS K α2 (D :: ξ) S2 H2 ∧ H2 D = some (.lst acc) ∧ RWs K α2 (D :: ξ) H2 acc accW ∧ compG get mn mt me (wipeD δ vs) m i S2 accW = some (res, S'), ⟨n, α1, S1, [], [], ext_new hD, rD, upd_same, .nil, hm2⟩, ?_⟩
  rintro i m H2 ⟨α2, S2, acc, accW, x2, r2, hD2, rv2, hm3⟩
  have re2 : RE K α2 (D :: ξ) H2 (L2.wipe σ vs) (wipeD δ vs) := ⟨reD.1, fun i w e => let ⟨v, e2, z⟩ := reD.2 i w e; ⟨v, e2, x2.rwx hx r1 z⟩⟩
  have srcI := src α2 (D :: ξ) S2 H2 x2 hx r2 i
  have stop : get S2 i = some none → some (accW, S2) = some (res, S') → J.stop i H2 ∧ Q (.ref D) H2 := fun e e2 => by
    cases e2
    refine ⟨srcI.2 e, ?_⟩
    obtain ⟨rr, ww, eq⟩ := RS.drop hDξ r2 hD2 rv2
    have x0 : Ext α1 H1 α2 (fun b => if b = D then none else H2 b) := ⟨x2.pre, fun a o h1 h2 => by
      show (if a = D then none else H2 a) = some o
      rw [if_neg (neD h1)]
      exact x2.keep a o h1 h2, fun a ha => by
      by_cases ea : a = D
      · rw [ea]; exact hD
      · have ha2 : (if a = D then none else H2 a) = none := ha
        rw [if_neg ea] at ha2
        exact x2.live a ha2⟩
    have := q α2 acc _ D (x1.trans x0) rr (by show (if D = D then none else H2 D) = none; rw [if_pos rfl]) ww
    rw [eq] at this
    exact this
  cases m with
  | zero =>
    have hm4 : (match get S2 i with
      | some none => some (accW, S2)
      | _ => none) = some (res, S') := hm3
    cases e : get S2 i with
    | none => rw [e] at hm4; cases hm4
    | some o =>
      rw [e] at hm4
      cases o with
      | none => exact .inl (stop e hm4)
      | some w => cases hm4
  | succ f =>
    have hm4 : (match get S2 i with
      | none => none
      | some none => some (accW, S2)
      | some (some w) => (mn w).bind fun l => (mt (setsD (wipeD δ vs) l) S2).bind fun b => if b.1 then (me (setsD (wipeD δ vs) l) b.2).bind fun y => if accW.length < 1000000 then compG get mn mt me (wipeD δ vs) f (i + 1) y.2 (accW ++ [y.1]) else none else compG get mn mt me (wipeD δ vs) f (i + 1) b.2 accW) = some (res, S') := hm3
    cases e : get S2 i with
    | none => rw [e] at hm4; cases hm4
    | some o =>
     cases o with
     | none => rw [e] at hm4; exact .inl (stop e hm4)
     | some w =>
      rw [e] at hm4
      obtain ⟨l, e2, hm5⟩ := bind_some hm4
      obtain ⟨⟨b, S3⟩, e3, hm6⟩ := bind_some hm5
      refine .inr ⟨(srcI.1 w e).1, fun H' => ∃ α2 S2 acc accW, Ext α1 H1 α2 H' ∧ RS K α2 (D :: ξ) S2 H' ∧ H' D = some (.lst acc) ∧ RWs K α2 (D :: ξ) H' acc accW ∧ compG get mn mt me (wipeD δ vs) f (i + 1) S2 accW = some (res, S'), fun H' h => ⟨f, Nat.lt_succ_self _, h⟩, fun v H' y => ?_⟩
      obtain ⟨xe, r3, rw3⟩ := (srcI.1 w e).2 v H' y
      refine ⟨α2, D :: ξ, S2, w, l, r3, rw3, e2, fun l' k => ⟨(wipe_sets (k.slots (hin w l e2))).trans (wipe_wipe fun i h => h), ?_⟩⟩
      refine tDT_go r3 (RE.sets k (xe.re r2 re2)) e3 fun α4 H4 x4 r4 re4 => ?_
      have nD2 : D ∉ α2 := r2.apart D List.mem_cons_self
      have hD4 : H4 D = some (.lst acc) := x4.keep D _ (xe.keep D _ hD2 nD2) nD2
      cases b with
      | false =>
        rw [if_neg Bool.false_ne_true]
        have hm7 : compG get mn mt me (wipeD δ vs) f (i + 1) S3 accW = some (res, S') := hm6
        exact ⟨α4, S3, acc, accW, (x2.trans xe).trans x4, r4, hD4, (xe.trans x4).rws r2 rv2, hm7⟩
      | true =>
        rw [if_pos rfl]
        obtain ⟨⟨y1, S5⟩, e5, hm7⟩ := bind_some (show (me (setsD (wipeD δ vs) l) S3).bind (fun y => if accW.length < 1000000 then compG get mn mt me (wipeD δ vs) f (i + 1) y.2 (accW ++ [y.1]) else none) = some (res, S') from hm6)
        refine tD_go r4 re4 e5 fun α5 v5 H5 x5 r5 q5 re5 => ?_
        have nD4 : D ∉ α4 := r4.apart D List.mem_cons_self
        have hD5 : H5 D = some (.lst acc) := x5.keep D _ hD4 nD4
        simp only at hm7
        split at hm7
        · rename_i hz
          refine ⟨acc, hD5, by rw [Paired.length rv2, sizeLine_eq]; omega, ?_⟩
          have xs : Ext α1 H1 α5 H5 := ((x2.trans xe).trans x4).trans x5
          obtain ⟨u1, u2⟩ := upd_ex (us := acc ++ [v5]) (D := D) List.mem_cons_self r5
          refine ⟨α5, S5, acc ++ [v5], accW ++ [y1], ⟨xs.pre, fun a o h1 h2 => ?_, fun a ha => ?_⟩, u2, upd_same, ?_, hm7⟩
          · rw [upd_ne (neD h1)]
            exact xs.keep a o h1 h2
          · by_cases ea : a = D
            · rw [ea]; exact hD
            · rw [upd_ne ea] at ha
              exact xs.live a ha
          · have z : RWs K α5 (D :: ξ) H5 (acc ++ [v5]) (accW ++ [y1]) := rws_app (((xe.trans x4).trans x5).rws r2 rv2) (.cons q5 .nil)
            exact z.mono fun _ _ q => u1 _ _ q
        · cases hm7
/-- [elt for target in iter if ..] -/
theorem df_lc {X : Cx} {elt tg iter : Expr} {ifs : List Expr} {scope : Scope} {own : List (Str × Nat)} {pos : Pos} {mi : MI} {mn : MN} {mt : MT} {me : ME} (hc : X.calm = true) (hN : X.N.Nodup) (hi : DI X tg iter mi) (ok : BlkOk X.N X.env.scope scope own)
    (hg : ∀ (s : Shared) (H : Hp) (C : Addr) (cl : List (Str × Addr)) (fp : List Addr), DN (X.blk s H scope (compEnvC scope cl C X.env) fp) tg mn) (ht : ∀ (s : Shared) (H : Hp) (C : Addr) (cl : List (Str × Addr)) (fp : List Addr), DTs (X.blk s H scope (compEnvC scope cl C X.env) fp) ifs mt)
    (he : ∀ (s : Shared) (H : Hp) (C : Addr) (cl : List (Str × Addr)) (fp : List Addr), DE (X.blk s H scope (compEnvC scope cl C X.env) fp) elt me) (hin : InN mn (own.map (·.2))) (hs : ∀ x, foldedSetIterable iter X.env x = pure x := by intro _; rfl) :
    DF X (.ListComp elt [⟨tg, iter, ifs, 0⟩] scope pos) (mComp mi mn mt me (own.map (·.2))) :=
  ⟨peMono (pe_lc hc hN hi.run ok (fun s H C cl fp => (hg s H C cl fp).run) (fun s H C cl fp => (ht s H C cl fp).run) (fun s H C cl fp => (he s H C cl fp).run) hs) fun _ _ _ h => tLc_of hin h⟩
end K15
set_option Elab.async false
set_option linter.all false
set_option maxRecDepth 100000
set_option maxHeartbeats 4000000
set_option autoImplicit false
namespace K15
open PySem PySem.Spec PyProof.Rows L2
/-! ### statements -/
inductive Fl where
  | nx (δ : DEnv) | rt (w : Wv) | bk (δ : DEnv) | ct (δ : DEnv)
abbrev MS := DEnv → Sto → Option (Fl × Sto)
def PostS (K : PySem.W.Frag) (α ξ : List Addr) (H : Hp) (S' : Sto) (fl : Fl) (D : Ends) : Prop := match fl with
  | .nx δ' => ∀ α' σ' H', Ext α H α' H' → RS K α' ξ S' H' → RE K α' ξ H' σ' δ' → D.nx σ' H'
  | .rt w => ∀ α' v H', Ext α H α' H' → RS K α' ξ S' H' → RW K α' ξ H' v w → D.rt v H'
  | .bk δ' => ∀ α' σ' H', Ext α H α' H' → RS K α' ξ S' H' → RE K α' ξ H' σ' δ' → D.bk σ' H'
  | .ct δ' => ∀ α' σ' H', Ext α H α' H' → RS K α' ξ S' H' → RE K α' ξ H' σ' δ' → D.ct σ' H'
theorem PostS.ext {K : PySem.W.Frag} {α α' ξ : List Addr} {H H' : Hp} {S' : Sto} {fl : Fl} {D : Ends} (p : PostS K α ξ H S' fl D) (x : Ext α H α' H') : PostS K α' ξ H' S' fl D := by
  cases fl with
  | nx δ => exact fun a s h y r q => p a s h (x.trans y) r q
  | rt w => exact fun a s h y r q => p a s h (x.trans y) r q
  | bk δ => exact fun a s h y r q => p a s h (x.trans y) r q
  | ct δ => exact fun a s h y r q => p a s h (x.trans y) r q
def tS (K : PySem.W.Frag) (m : MS) : TS := fun D σ H => ∃ α ξ S δ fl S', RS K α ξ S H ∧ RE K α ξ H σ δ ∧ m δ S = some (fl, S') ∧ PostS K α ξ H S' fl D
structure DS (X : Cx) (st : Stmt) (m : MS) : Prop where
  run : PS X st (tS X.K m)
structure DSs (X : Cx) (st : List Stmt) (m : MS) : Prop where
  run : PSs X st (tS X.K m)
theorem psMono {X : Cx} {st : Stmt} {t t' : TS} (h : PS X st t) (k : ∀ D σ H, t' D σ H → t D σ H) : PS X st t' := ⟨fun pins s σ H D I q => h.run pins s σ H D I (k D σ H q)⟩
theorem pssMono {X : Cx} {st : List Stmt} {t t' : TS} (h : PSs X st t) (k : ∀ D σ H, t' D σ H → t D σ H) : PSs X st t' := ⟨fun pins s σ H D I q => h.run pins s σ H D I (k D σ H q)⟩
def mSeq (a b : MS) : MS := fun δ S => (a δ S).bind fun p => match p.1 with
  | .nx δ1 => b δ1 p.2
  | f => some (f, p.2)
def mNext : MS := fun δ S => some (.nx δ, S)
def mBreak : MS := fun δ S => some (.bk δ, S)
def mNever : MS := fun _ _ => none
def mSet (i : Nat) (e : ME) : MS := fun δ S => (e δ S).bind fun p => some (.nx (δ.set i (some p.1)), p.2)
def mDrop (e : ME) : MS := fun δ S => (e δ S).bind fun p => some (.nx δ, p.2)
def mRet (e : ME) : MS := fun δ S => (e δ S).bind fun p => some (.rt p.1, p.2)
def mIfS (c : MT) (a b : MS) : MS := fun δ S => (c δ S).bind fun p => if p.1 then a δ p.2 else b δ p.2
/-- target = e, the target of names -/
def mAsgN (n : MN) (e : ME) : MS := fun δ S => (e δ S).bind fun p => (n p.1).bind fun l => some (.nx (setsD δ l), p.2)
def mPar (i j : Nat) (a : MA) : MS := fun δ S => (a δ S).bind fun p => match p.1 with
  | [v, w] => some (.nx ((δ.set i (some v)).set j (some w)), p.2)
  | _ => none
def mPar3 (i j l : Nat) (a : MA) : MS := fun δ S => (a δ S).bind fun p => match p.1 with
  | [v, w, u] => some (.nx (((δ.set i (some v)).set j (some w)).set l (some u)), p.2)
  | _ => none
section
variable {X : Cx} {st : Stmt} {rest : List Stmt} {a b : MS} {e c : Expr} {me : ME} {mc : MT} {pos : Pos}
theorem dss_cons (h1 : DS X st a) (h2 : DSs X rest b) : DSs X (st :: rest) (mSeq a b) := by
  refine ⟨pssMono (pss_cons h1.run h2.run) fun D σ H h => ?_⟩
  obtain ⟨α, ξ, S, δ, fl, S', rs, re, hm, q⟩ := h
  obtain ⟨⟨f1, S1⟩, e1, hm2⟩ := bind_some hm
  cases f1 with
  | nx δ1 => exact ⟨α, ξ, S, δ, .nx δ1, S1, rs, re, e1, fun α1 σ1 H1 x1 r1 re1 => ⟨α1, ξ, S1, δ1, fl, S', r1, re1, hm2, q.ext x1⟩⟩
  | rt w => cases hm2; exact ⟨α, ξ, S, δ, _, _, rs, re, e1, q⟩
  | bk δ1 => cases hm2; exact ⟨α, ξ, S, δ, _, _, rs, re, e1, q⟩
  | ct δ1 => cases hm2; exact ⟨α, ξ, S, δ, _, _, rs, re, e1, q⟩
theorem dss_one (h1 : DS X st a) : DSs X [st] a := ⟨pss_one h1.run⟩
theorem dss_nil : DSs X [] mNext := by
  refine ⟨pssMono pss_nil fun D σ H h => ?_⟩
  obtain ⟨α, ξ, S, δ, fl, S', rs, re, hm, q⟩ := h
  cases hm
  exact q α σ H Ext.refl rs re
theorem ds_break : DS X (.Break pos) mBreak := by
  refine ⟨psMono ps_break fun D σ H h => ?_⟩
  obtain ⟨α, ξ, S, δ, fl, S', rs, re, hm, q⟩ := h
  cases hm
  exact q α σ H Ext.refl rs re
theorem ds_pass : DS X (.Pass pos) mNext := by
  refine ⟨psMono ps_pass fun D σ H h => ?_⟩
  obtain ⟨α, ξ, S, δ, fl, S', rs, re, hm, q⟩ := h
  cases hm
  exact q α σ H Ext.refl rs re
theorem ds_never : DS X st mNever := by
  refine ⟨psMono ps_never fun D σ H h => ?_⟩
  obtain ⟨α, ξ, S, δ, fl, S', rs, re, hm, q⟩ := h
  cases hm
theorem set_of {K : PySem.W.Frag} {i : Nat} {D : Ends} {σ : L2.St} {H : Hp} (h : tS K (mSet i me) D σ H) : tD K me σ H fun x H1 => D.nx (σ.set i (some x)) H1 := by
  obtain ⟨α, ξ, S, δ, fl, S', rs, re, hm, q⟩ := h
  obtain ⟨⟨w, S1⟩, e1, hm2⟩ := bind_some hm
  cases hm2
  exact tD_go rs re e1 fun α1 v1 H1 x1 r1 q1 re1 => q α1 _ H1 x1 r1 (re1.set i q1)
theorem ds_set {i : Nat} {x : Str} {pos' : Pos} (hN : X.N.Nodup) (hi : X.N[i]? = some x) (hx : Loc X.env.scope x) (he : DE X e me) (hs : swapsWith e (some (.Name x pos')) pos.line X.env = pure false := by rfl) (hf : X.fn x = true ∨ X.env.scope.names.lookup x = some .local := by first | exact .inl rfl | exact .inr rfl | assumption) :
    DS X (.Assign [.Name x pos'] e pos) (mSet i me) := ⟨psMono (ps_set hN hi hx he.run hs hf) fun _ _ _ h => set_of h⟩
theorem imm_of {K : PySem.W.Frag} {mf : MF} {σ : L2.St} {H : Hp} {Q : VK} (h : tD K (mImm mf) σ H Q) : tDF K mf σ H Q := by
  obtain ⟨α, ξ, S, δ, w, S', rs, re, hm, q⟩ := h
  obtain ⟨⟨ws, S1⟩, e1, hm⟩ := bind_some hm
  cases e2 : toDs ws with
  | none => simp only [e2] at hm; cases hm
  | some ds =>
    simp only [e2] at hm
    cases hm
    have e3 := toDs_eq e2
    subst e3
    exact tDF_go rs re e1 fun α1 vs H0 p x1 r1 hp q1 _ => post_lst r1 (q.ext x1) (rds_of_rws q1) hp
theorem mut_of {K : PySem.W.Frag} {mf : MF} {σ : L2.St} {H : Hp} {Q : VK} (h : tD K (mMut mf) σ H Q) : tDF K mf σ H Q := by
  obtain ⟨α, ξ, S, δ, w, S', rs, re, hm, q⟩ := h
  obtain ⟨⟨ws, S1⟩, e1, hm⟩ := bind_some hm
  cases hm
  refine tDF_go rs re e1 fun α1 vs H0 p x1 r1 hp q1 _ => ?_
  refine q (α1 ++ [p]) _ _ (x1.trans (ext_loc hp)) (r1.loc hp q1) ⟨p, rfl, ?_⟩
  rw [← r1.len]
  simp
/-- y = [elt for ..] as one store -/
theorem ps_setC {i : Nat} {y : Str} {py : Pos} {elt tg iter : Expr} {ifs : List Expr} {scope : Scope} {own : List (Str × Nat)} {spos : Pos} {mi : MI} {mn : MN} {mt : MT} (hc : X.calm = true) (hN : X.N.Nodup) (hy : X.N[i]? = some y) (hyl : X.env.scope.names.lookup y = some .local)
    (hsw : swapsWith (.ListComp elt [⟨tg, iter, ifs, 0⟩] scope pos) (some (.Name y py)) spos.line X.env = pure true) (hi : DI X tg iter mi) (ok : BlkOk X.N X.env.scope scope own)
    (hg : ∀ (s : Shared) (H : Hp) (C : Addr) (cl : List (Str × Addr)) (fp : List Addr), DN (X.blk s H scope (compEnvC scope cl C X.env) fp) tg mn) (ht : ∀ (s : Shared) (H : Hp) (C : Addr) (cl : List (Str × Addr)) (fp : List Addr), DTs (X.blk s H scope (compEnvC scope cl C X.env) fp) ifs mt)
    (he : ∀ (s : Shared) (H : Hp) (C : Addr) (cl : List (Str × Addr)) (fp : List Addr), DE (X.blk s H scope (compEnvC scope cl C X.env) fp) elt me) (hs : ∀ x, foldedSetIterable iter X.env x = pure x := by intro _; rfl) :
    PS X (.Assign [.Name y py] (.ListComp elt [⟨tg, iter, ifs, 0⟩] scope pos) spos) (tAsg (tLc (tDI X.K mi) (tDN X.K mn) (tDT X.K mt) (tD X.K me) (own.map (·.2))) (gName i)) :=
  ps_setLc hc hN hy hyl hsw hi.run ok (fun s H C cl fp => (hg s H C cl fp).run) (fun s H C cl fp => (ht s H C cl fp).run) (fun s H C cl fp => (he s H C cl fp).run) hs
theorem ds_setImm {i : Nat} {st : Stmt} {mi : MI} {mn : MN} {mt : MT} {vs : List Nat} (h : PS X st (tAsg (tLc (tDI X.K mi) (tDN X.K mn) (tDT X.K mt) (tD X.K me) vs) (gName i))) (hin : InN mn vs) : DS X st (mSet i (mImm (mComp mi mn mt me vs))) :=
  ⟨psMono h fun _ _ _ h => tLc_of hin (imm_of (set_of h))⟩
theorem ds_setMut {i : Nat} {st : Stmt} {mi : MI} {mn : MN} {mt : MT} {vs : List Nat} (h : PS X st (tAsg (tLc (tDI X.K mi) (tDN X.K mn) (tDT X.K mt) (tD X.K me) vs) (gName i))) (hin : InN mn vs) : DS X st (mSet i (mMut (mComp mi mn mt me vs))) :=
  ⟨psMono h fun _ _ _ h => tLc_of hin (mut_of (set_of h))⟩
theorem ds_expr (he : DE X e me) (hs : swapsWith e none pos.line X.env = pure false := by rfl) : DS X (.Expr e pos) (mDrop me) := by
  refine ⟨psMono (ps_expr he.run hs) fun D σ H h => ?_⟩
  obtain ⟨α, ξ, S, δ, fl, S', rs, re, hm, q⟩ := h
  obtain ⟨⟨w, S1⟩, e1, hm2⟩ := bind_some hm
  cases hm2
  exact tD_go rs re e1 fun α1 v1 H1 x1 r1 q1 re1 => q α1 σ H1 x1 r1 re1
theorem ds_ret (he : DE X e me) : DS X (.Return (some e) pos) (mRet me) := by
  refine ⟨psMono (ps_ret he.run) fun D σ H h => ?_⟩
  obtain ⟨α, ξ, S, δ, fl, S', rs, re, hm, q⟩ := h
  obtain ⟨⟨w, S1⟩, e1, hm2⟩ := bind_some hm
  cases hm2
  exact tD_go rs re e1 fun α1 v1 H1 x1 r1 q1 re1 => q α1 v1 H1 x1 r1 q1
theorem ds_if {sa sb : List Stmt} (hc : DT X c mc) (ha : DSs X sa a) (hb : DSs X sb b) : DS X (.If c sa sb pos) (mIfS mc a b) := by
  refine ⟨psMono (ps_if hc.run ha.run hb.run) fun D σ H h => ?_⟩
  obtain ⟨α, ξ, S, δ, fl, S', rs, re, hm, q⟩ := h
  obtain ⟨⟨b1, S1⟩, e1, hm2⟩ := bind_some hm
  refine tDT_go rs re e1 fun α1 H1 x1 r1 re1 => ?_
  cases b1 with
  | true =>
    rw [if_pos rfl] at hm2 ⊢
    exact ⟨α1, ξ, S1, δ, fl, S', r1, re1, hm2, q.ext x1⟩
  | false =>
    rw [if_neg Bool.false_ne_true] at hm2 ⊢
    exact ⟨α1, ξ, S1, δ, fl, S', r1, re1, hm2, q.ext x1⟩
theorem ds_asgN {tg : Expr} {mn : MN} (he : DE X e me) (hg : DN X tg mn) (hs : swapsWithSole [tg] e pos.line X.env = pure false := by rfl) (hw : swappedStores [tg] e X.env = pure none := by rfl)
    (h1 : (assignEach [tg] X.env).map (·.2) = [assign tg X.env] := by rfl) : DS X (.Assign [tg] e pos) (mAsgN mn me) := by
  refine ⟨psMono (ps_asg he.run hg.run hs hw h1) fun D σ H h => ?_⟩
  obtain ⟨α, ξ, S, δ, fl, S', rs, re, hm, q⟩ := h
  obtain ⟨⟨w, S1⟩, e1, hm2⟩ := bind_some hm
  obtain ⟨l, e2, hm3⟩ := bind_some hm2
  cases hm3
  refine tD_go rs re e1 fun α1 v1 H1 x1 r1 q1 re1 => ?_
  exact ⟨α1, ξ, S1, w, l, r1, q1, e2, fun l' k => q α1 _ H1 x1 r1 (RE.sets k re1)⟩
theorem ds_par {i j : Nat} {x y : Str} {a b : Expr} {ma : MA} {px py pt : Pos} {kt k2 pt2} (hc : X.calm = true) (hN : X.N.Nodup) (hi : X.N[i]? = some x) (hj : X.N[j]? = some y) (hij : i ≠ j)
    (hx : X.env.scope.names.lookup x = some .local) (hy : X.env.scope.names.lookup y = some .local) (ha : DA X [a, b] ma)
    (hw : swappedStores [.Tuple [.Name x px, .Name y py] kt pt] (.Tuple [a, b] k2 pt2) X.env = pure (some [x, y]))
    (hs : swapsWithSole [.Tuple [.Name x px, .Name y py] kt pt] (.Tuple [a, b] k2 pt2) pos.line X.env = pure false := by rfl) :
    DS X (.Assign [.Tuple [.Name x px, .Name y py] kt pt] (.Tuple [a, b] k2 pt2) pos) (mPar i j ma) := by
  refine ⟨psMono (ps_par hc hN hi hj hij hx hy ha.run hw hs) fun D σ H h => ?_⟩
  obtain ⟨α, ξ, S, δ, fl, S', rs, re, hm, q⟩ := h
  obtain ⟨⟨ws, S1⟩, e1, hm2⟩ := bind_some hm
  refine tDA_go rs re e1 fun α1 vs H1 x1 r1 q1 re1 => ?_
  simp only at hm2
  split at hm2
  · rename_i v w
    cases hm2
    obtain ⟨v1, w1, rfl, q2, q3⟩ := rws_two q1
    exact ⟨v1, w1, rfl, q α1 _ H1 x1 r1 ((re1.set i q2).set j q3)⟩
  · cases hm2
end
/-! ### targets of any kind, a display stored part by part -/
abbrev MG := Wv → DEnv → Sto → Option (DEnv × Sto)
abbrev MGs := List Wv → DEnv → Sto → Option (DEnv × Sto)
def tDG (K : PySem.W.Frag) (m : MG) : TG := fun v σ H Q => ∃ α ξ S δ w δ' S', RS K α ξ S H ∧ RE K α ξ H σ δ ∧ RW K α ξ H v w ∧ m w δ S = some (δ', S') ∧ ∀ α1 σ1 H1, Ext α H α1 H1 → RS K α1 ξ S' H1 → RE K α1 ξ H1 σ1 δ' → Q σ1 H1
def tDGs (K : PySem.W.Frag) (m : MGs) : TGs := fun vs σ H Q => ∃ α ξ S δ ws δ' S', RS K α ξ S H ∧ RE K α ξ H σ δ ∧ RWs K α ξ H vs ws ∧ m ws δ S = some (δ', S') ∧ ∀ α1 σ1 H1, Ext α H α1 H1 → RS K α1 ξ S' H1 → RE K α1 ξ H1 σ1 δ' → Q σ1 H1
structure DG (X : Cx) (tg : Expr) (m : MG) : Prop where
  run : PG X tg (tDG X.K m)
structure DGs (X : Cx) (tgs : List Expr) (m : MGs) : Prop where
  run : PGs X tgs (tDGs X.K m)
def gNm (n : MN) : MG := fun w δ S => (n w).bind fun l => some (setsD δ l, S)
def gSubD (o i : ME) : MG := fun w δ S => (o δ S).bind fun p => (i δ p.2).bind fun q => match p.1, q.1 with
  | .ref n, .d (.int k) => (q.2[n]?).bind fun ws => (ixN ws.length k).map fun j => (δ, q.2.set n (ws.set j w))
  | _, _ => none
def gsNil : MGs := fun ws δ S => match ws with
  | [] => some (δ, S)
  | _ => none
def gsCons (a : MG) (r : MGs) : MGs := fun ws δ S => match ws with
  | w :: us => (a w δ S).bind fun p => r us p.1 p.2
  | [] => none
def mAsgG (g : MG) (e : ME) : MS := fun δ S => (e δ S).bind fun p => (g p.1 δ p.2).bind fun q => some (.nx q.1, q.2)
def mAsgT (g : MGs) (a : MA) : MS := fun δ S => (a δ S).bind fun p => if p.1.length ≤ 1000 then (g p.1 δ p.2).bind fun q => some (.nx q.1, q.2) else none
theorem rws_set {K : PySem.W.Frag} {α ξ : List Addr} {H : Hp} {v : V} {w : Wv} (r : RW K α ξ H v w) : ∀ {vs : List V} {ws : List Wv} (j : Nat), RWs K α ξ H vs ws → RWs K α ξ H (vs.set j v) (ws.set j w)
  | _, _, _, .nil => .nil
  | _, _, 0, .cons _ t => .cons r t
  | _, _, j + 1, .cons q t => .cons q (rws_set r j t)
section
variable {X : Cx} {st : Stmt} {e o i : Expr} {me mo mi : ME} {pos : Pos}
theorem dg_nm {tg : Expr} {n : MN} (h : DN X tg n) : DG X tg (gNm n) := by
  refine ⟨pgMono h.run fun v σ H Q h => ?_⟩
  obtain ⟨α, ξ, S, δ, w, δ', S', rs, re, rw, hm, q⟩ := h
  obtain ⟨l, e, hm2⟩ := bind_some hm
  cases hm2
  exact ⟨α, ξ, S, w, l, rs, rw, e, fun l' k => q α _ H Ext.refl rs (RE.sets k re)⟩
theorem dg_sub (ho : DE X o mo) (hi : DE X i mi)
    (ha : ∀ v, assign (.Subscript o i pos) X.env v = (do
      let ov ← holding [v] (eval o X.env)
      let iv ← holding [v, ov] (eval i X.env)
      standAt pos
      holding [v, ov, iv] (setItem ov iv v)
      release [v, ov, iv] []) := by intro _; rfl) : DG X (.Subscript o i pos) (gSubD mo mi) := by
  refine ⟨pgMono (pg_sub ho.run hi.run set_list ha) fun v σ H Q h => ?_⟩
  obtain ⟨α, ξ, S, δ, w, δ', S', rs, re, rw, hm, q⟩ := h
  obtain ⟨⟨w1, S1⟩, e1, hm2⟩ := bind_some hm
  obtain ⟨⟨w2, S2⟩, e2, hm3⟩ := bind_some hm2
  refine tD_go rs re e1 fun α1 v1 H1 x1 r1 q1 re1 => ?_
  refine tD_go r1 re1 e2 fun α2 v2 H2 x2 r2 q2 re2 => ?_
  simp only at hm3
  split at hm3
  · rename_i n k
    obtain ⟨ws, e3, hm4⟩ := bind_some hm3
    cases e4 : ixN ws.length k with
    | none => rw [e4] at hm4; cases hm4
    | some j =>
      rw [e4] at hm4
      cases hm4
      obtain ⟨a, rfl, ha⟩ := x2.rw r1 q1
      cases q2
      obtain ⟨vs, h2, rv⟩ := r2.at_ n a ws ha e3
      have x3 : Ext α2 H2 α2 (upd H2 a (.lst (vs.set j v))) := ext_set ha
      refine ⟨a, vs, k, j, rfl, rfl, h2, by rw [Paired.length rv]; exact e4, ?_⟩
      have x12 := x1.trans x2
      exact q α2 σ _ (x12.trans x3) (r2.set ha (rws_set (x12.rw rs rw) j rv)) (x3.re r2 re2)
  · cases hm3
theorem dgs_nil : DGs X [] gsNil := by
  refine ⟨pgsMono pgs_nil fun v σ H Q h => ?_⟩
  obtain ⟨α, ξ, S, δ, ws, δ', S', rs, re, rw, hm, q⟩ := h
  unfold gsNil at hm
  split at hm
  · cases hm
    cases rw
    exact ⟨rfl, q α σ H Ext.refl rs re⟩
  · cases hm
theorem dgs_cons {es : List Expr} {a : MG} {r : MGs} (h1 : DG X e a) (h2 : DGs X es r) (hs : (assignEach (e :: es) X.env).map (·.2) = assign e X.env :: (assignEach es X.env).map (·.2) := by rfl) : DGs X (e :: es) (gsCons a r) := by
  refine ⟨pgsMono (pgs_cons h1.run h2.run hs) fun v σ H Q h => ?_⟩
  obtain ⟨α, ξ, S, δ, ws, δ', S', rs, re, rw, hm, q⟩ := h
  unfold gsCons at hm
  split at hm
  · rename_i w us
    obtain ⟨⟨δ1, S1⟩, e1, hm2⟩ := bind_some hm
    cases rw with
    | cons rw1 rw2 =>
      refine ⟨_, _, rfl, α, ξ, S, δ, w, δ1, S1, rs, re, rw1, e1, fun α1 σ1 H1 x1 r1 re1 => ?_⟩
      exact ⟨α1, ξ, S1, δ1, us, δ', S', r1, re1, x1.rws rs rw2, hm2, fun α2 σ2 H2 x2 r2 re2 => q α2 σ2 H2 (x1.trans x2) r2 re2⟩
  · cases hm
theorem ds_asgG {tg : Expr} {g : MG} (he : DE X e me) (hg : DG X tg g) (hs : swapsWithSole [tg] e pos.line X.env = pure false := by rfl) (hw : swappedStores [tg] e X.env = pure none := by rfl)
    (h1 : (assignEach [tg] X.env).map (·.2) = [assign tg X.env] := by rfl) : DS X (.Assign [tg] e pos) (mAsgG g me) := by
  refine ⟨psMono (ps_asg he.run hg.run hs hw h1) fun D σ H h => ?_⟩
  obtain ⟨α, ξ, S, δ, fl, S', rs, re, hm, q⟩ := h
  obtain ⟨⟨w, S1⟩, e1, hm2⟩ := bind_some hm
  obtain ⟨⟨δ2, S2⟩, e2, hm3⟩ := bind_some hm2
  cases hm3
  refine tD_go rs re e1 fun α1 v1 H1 x1 r1 q1 re1 => ?_
  exact ⟨α1, ξ, S1, δ, w, δ2, S2, r1, re1, q1, e2, fun α2 σ2 H2 x2 r2 re2 => q α2 σ2 H2 (x1.trans x2) r2 re2⟩
/-- t1, t2 = e1, e2: the display is made and taken apart -/
theorem ds_asgT {tgs es : List Expr} {k k2 : Nat} {p1 p2 : Pos} {g : MGs} {ma : MA} {n : Nat} (hc : X.calm = true) (ha : DA X es ma) (hg : DGs X tgs g) (hl : LenA ma n)
    (hn : (assignEach tgs X.env).length = n := by rfl) (hst : (assignEach tgs X.env).findIdx? (·.1) = none := by rfl)
    (hs : swapsWithSole [.Tuple tgs k p1] (.Tuple es k2 p2) pos.line X.env = pure false := by rfl) (hw : swappedStores [.Tuple tgs k p1] (.Tuple es k2 p2) X.env = pure none := by rfl)
    (h1 : (assignEach [.Tuple tgs k p1] X.env).map (·.2) = [assign (.Tuple tgs k p1) X.env] := by rfl) : DS X (.Assign [.Tuple tgs k p1] (.Tuple es k2 p2) pos) (mAsgT g ma) := by
  refine ⟨psMono (ps_asg (pe_tup ha.run) (pg_tup hc hg.run hn hst) hs hw h1) fun D σ H h => ?_⟩
  obtain ⟨α, ξ, S, δ, fl, S', rs, re, hm, q⟩ := h
  obtain ⟨⟨ws, S1⟩, e1, hm2⟩ := bind_some hm
  simp only at hm2
  split at hm2
  · rename_i hz
    obtain ⟨⟨δ2, S2⟩, e2, hm3⟩ := bind_some hm2
    cases hm3
    refine tDA_go rs re e1 fun α1 vs H1 x1 r1 q1 re1 => ?_
    have hlen := Paired.length q1
    refine ⟨by rw [hlen, sizeLine_eq]; omega, fun p hp => ?_⟩
    have x2 : Ext α1 H1 α1 (upd H1 p (.tup vs)) := ext_new hp
    refine ⟨p, vs, rfl, SqT.of upd_same, by rw [hlen]; exact hl _ _ _ _ e1, α1, ξ, S1, δ, ws, δ2, S2, r1.new hp, x2.re r1 re1, x2.rws r1 q1, e2, fun α3 σ3 H3 x3 r3 re3 => q α3 σ3 H3 ((x1.trans x2).trans x3) r3 re3⟩
  · cases hm2
end
/-! ### loops -/
def forG (get : Gt) (n : MN) (b : MS) : Nat → Nat → DEnv → Sto → Option (Fl × Sto)
  | 0, i, δ, S => match get S i with
    | some none => some (.nx δ, S)
    | _ => none
  | f + 1, i, δ, S => match get S i with
    | none => none
    | some none => some (.nx δ, S)
    | some (some w) => (n w).bind fun l => (b (setsD δ l) S).bind fun p => match p.1 with
      | .nx δ2 => forG get n b f (i + 1) δ2 p.2
      | .ct δ2 => forG get n b f (i + 1) δ2 p.2
      | .bk δ2 => some (.nx δ2, p.2)
      | .rt w => some (.rt w, p.2)
def mFor (it : MI) (n : MN) (b : MS) : MS := fun δ S => (it δ S).bind fun p => forG p.1.2 n b p.1.1 0 δ p.2
def whileG (c : MT) (b : MS) : Nat → DEnv → Sto → Option (Fl × Sto)
  | 0, _, _ => none
  | f + 1, δ, S => (c δ S).bind fun p => if p.1 then (b δ p.2).bind fun q => match q.1 with
      | .nx δ2 => whileG c b f δ2 q.2
      | .ct δ2 => whileG c b f δ2 q.2
      | .bk δ2 => some (.nx δ2, q.2)
      | .rt w => some (.rt w, q.2)
    else some (.nx δ, p.2)
section
variable {X : Cx} {tg iter c : Expr} {body : List Stmt} {mi : MI} {mn : MN} {mb : MS} {mc : MT} {pos : Pos}
theorem tFor_of {K : PySem.W.Frag} {D : Ends} {σ : L2.St} {H : Hp} (h : tS K (mFor mi mn mb) D σ H) : tFor (tDI K mi) (tDN K mn) (tS K mb) D σ H := by
  obtain ⟨α, ξ, S, δ, fl, S', rs, re, hm, q⟩ := h
  obtain ⟨⟨⟨n, get⟩, S1⟩, e1, hm2⟩ := bind_some hm
  refine ⟨α, ξ, S, δ, (n, get), S1, rs, re, e1, fun α1 H1 J x1 r1 src => ?_⟩
  refine ⟨fun i m σ2 H2 => ∃ α2 S2 δ2, Ext α1 H1 α2 H2 ∧ RS K α2 ξ S2 H2 ∧ RE K α2 ξ H2 σ2 δ2 ∧ forG get mn mb m i δ2 S2 = some (fl, S'), ⟨n, α1, S1, δ, Ext.refl, r1, x1.re rs re, hm2⟩, ?_⟩
  rintro i m σ2 H2 ⟨α2, S2, δ2, x2, r2, re2, hm3⟩
  have srcI := src α2 ξ S2 H2 x2 (fun c hc => .inl hc) r2 i
  have stop : get S2 i = some none → some (Fl.nx δ2, S2) = some (fl, S') → J.stop i H2 ∧ D.nx σ2 H2 := fun e e2 => by
    cases e2
    exact ⟨srcI.2 e, q α2 σ2 H2 (x1.trans x2) r2 re2⟩
  cases m with
  | zero =>
    have hm4 : (match get S2 i with
      | some none => some (Fl.nx δ2, S2)
      | _ => none) = some (fl, S') := hm3
    cases e : get S2 i with
    | none => rw [e] at hm4; cases hm4
    | some o =>
      rw [e] at hm4
      cases o with
      | none => exact .inl (stop e hm4)
      | some w => cases hm4
  | succ f =>
    have hm4 : (match get S2 i with
      | none => none
      | some none => some (Fl.nx δ2, S2)
      | some (some w) => (mn w).bind fun l => (mb (setsD δ2 l) S2).bind fun p => match p.1 with
        | .nx δ2 => forG get mn mb f (i + 1) δ2 p.2
        | .ct δ2 => forG get mn mb f (i + 1) δ2 p.2
        | .bk δ2 => some (.nx δ2, p.2)
        | .rt w => some (.rt w, p.2)) = some (fl, S') := hm3
    cases e : get S2 i with
    | none => rw [e] at hm4; cases hm4
    | some o =>
     cases o with
     | none => rw [e] at hm4; exact .inl (stop e hm4)
     | some w =>
      rw [e] at hm4
      obtain ⟨l, e2, hm5⟩ := bind_some hm4
      obtain ⟨⟨f1, S3⟩, e3, hm6⟩ := bind_some hm5
      refine .inr ⟨(srcI.1 w e).1, fun σ' H' => ∃ α2 S2 δ2, Ext α1 H1 α2 H' ∧ RS K α2 ξ S2 H' ∧ RE K α2 ξ H' σ' δ2 ∧ forG get mn mb f (i + 1) δ2 S2 = some (fl, S'), fun σ' H' h => ⟨f, Nat.lt_succ_self _, h⟩, fun v H' y => ?_⟩
      obtain ⟨xe, r3, rw3⟩ := (srcI.1 w e).2 v H' y
      refine ⟨α2, ξ, S2, w, l, r3, rw3, e2, fun l' k => ?_⟩
      refine ⟨α2, ξ, S2, setsD δ2 l, f1, S3, r3, RE.sets k (xe.re r2 re2), e3, ?_⟩
      have xx := x2.trans xe
      cases f1 with
      | nx δ4 => exact fun α4 σ4 H4 x4 r4 re4 => ⟨α4, S3, δ4, xx.trans x4, r4, re4, hm6⟩
      | ct δ4 => exact fun α4 σ4 H4 x4 r4 re4 => ⟨α4, S3, δ4, xx.trans x4, r4, re4, hm6⟩
      | bk δ4 =>
        cases hm6
        exact fun α4 σ4 H4 x4 r4 re4 => q α4 σ4 H4 ((x1.trans xx).trans x4) r4 re4
      | rt w4 =>
        cases hm6
        exact fun α4 v4 H4 x4 r4 q4 => q α4 v4 H4 ((x1.trans xx).trans x4) r4 q4
theorem ds_for (hp : PassesOwn (model X.prog X.w) X.A X.env X.xe) (hc : X.calm = true) (hi : DI X tg iter mi) (hg : DN X tg mn) (hb : DSs X body mb)
    (hs : ∀ x, foldedSetIterable iter X.env x = pure x := by intro _; rfl) : DS X (.For tg iter body [] pos) (mFor mi mn mb) :=
  ⟨psMono (ps_for hp hc hi.run hg.run hb.run hs) fun _ _ _ h => tFor_of h⟩
theorem ds_while (N : Nat) (hp : PassesOwn (model X.prog X.w) X.A X.env X.xe) (hc : DT X c mc) (hb : DSs X body mb) : DS X (.While c body [] pos) (whileG mc mb N) := by
  refine ⟨psMono (ps_while hp hc.run hb.run) fun D σ H h => ?_⟩
  obtain ⟨α, ξ, S, δ, fl, S', rs, re, hm, q⟩ := h
  refine ⟨fun m σ2 H2 => ∃ α2 S2 δ2, Ext α H α2 H2 ∧ RS X.K α2 ξ S2 H2 ∧ RE X.K α2 ξ H2 σ2 δ2 ∧ whileG mc mb m δ2 S2 = some (fl, S'), ⟨N, α, S, δ, Ext.refl, rs, re, hm⟩, ?_⟩
  rintro m σ2 H2 ⟨α2, S2, δ2, x2, r2, re2, hm3⟩
  cases m with
  | zero => cases hm3
  | succ f =>
    obtain ⟨⟨b, S3⟩, e1, hm4⟩ := bind_some hm3
    refine tDT_go r2 re2 e1 fun α3 H3 x3 r3 re3 => ?_
    cases b with
    | false =>
      rw [if_neg Bool.false_ne_true] at hm4 ⊢
      cases hm4
      exact q α3 σ2 H3 (x2.trans x3) r3 re3
    | true =>
      rw [if_pos rfl] at hm4 ⊢
      obtain ⟨⟨f1, S4⟩, e3, hm6⟩ := bind_some hm4
      refine ⟨fun σ' H' => ∃ α2 S2 δ2, Ext α H α2 H' ∧ RS X.K α2 ξ S2 H' ∧ RE X.K α2 ξ H' σ' δ2 ∧ whileG mc mb f δ2 S2 = some (fl, S'), fun σ' H' h => ⟨f, Nat.lt_succ_self _, h⟩, ?_⟩
      refine ⟨α3, ξ, S3, δ2, f1, S4, r3, re3, e3, ?_⟩
      have xx := x2.trans x3
      cases f1 with
      | nx δ4 => exact fun α4 σ4 H4 x4 r4 re4 => ⟨α4, S4, δ4, xx.trans x4, r4, re4, hm6⟩
      | ct δ4 => exact fun α4 σ4 H4 x4 r4 re4 => ⟨α4, S4, δ4, xx.trans x4, r4, re4, hm6⟩
      | bk δ4 =>
        cases hm6
        exact fun α4 σ4 H4 x4 r4 re4 => q α4 σ4 H4 (xx.trans x4) r4 re4
      | rt w4 =>
        cases hm6
        exact fun α4 v4 H4 x4 r4 q4 => q α4 v4 H4 (xx.trans x4) r4 q4
end
/-! ### defs -/
def startD (n : Nat) (ws : List Wv) : DEnv := ws.map some ++ List.replicate (n - ws.length) none
/-- what a body gives -/
def sem (n : Nat) (m : MS) : FC := fun ws S => (m (startD n ws) S).bind fun p => match p.1 with
  | .rt w => some (w, p.2)
  | .nx _ => some (.d .none, p.2)
  | _ => none
theorem re_start {K : PySem.W.Frag} {α ξ : List Addr} {H : Hp} {vs : List V} {ws : List Wv} (N : List Str) (h : RWs K α ξ H vs ws) : RE K α ξ H (L2.start N vs) (startD N.length ws) := by
  have hl := Paired.length h
  refine ⟨by unfold L2.start startD; simp [hl], fun i w e => ?_⟩
  unfold startD at e
  by_cases hi : i < ws.length
  · rw [List.getElem?_append_left (by simpa using hi), List.getElem?_map] at e
    cases e1 : ws[i]? with
    | none => rw [e1] at e; cases e
    | some u =>
      rw [e1] at e
      cases e
      obtain ⟨v, h1, h2⟩ := rws_get h e1
      refine ⟨v, ?_, h2⟩
      unfold L2.start
      rw [List.getElem?_append_left (by simpa [hl] using hi), List.getElem?_map, h1]
      rfl
  · rw [List.getElem?_append_right (by simpa using hi), List.getElem?_replicate] at e
    split at e <;> cases e
section
variable {P : Program} {w : World} {K : PySem.W.Frag} {mg : Str → Option Value} {base : Heap}
theorem kn_of {x qual : Str} {params : Arguments} {body : List Stmt} {scope : Scope} {f : Addr} {fd : FuncData} {N ps : List Str} {k : Nat} {m : MS} (F : FunD K x qual params body scope [] [] f fd) (hmg : mg x = some (.ref f)) (S : FnScope N ps scope)
    (hb : Binds K fd ps [])
    (h : ∀ (cdv : Value) (A : Around) (outer : List Env) (s : Shared) (H : Hp) (E : XK), Room k (A.deeper (envOfC qual scope s.heap.objs.size f cdv)) → DSs (cxOf CX0 P w K mg base N qual scope f cdv A outer s H E).nox body m) :
    Kn P w K mg base (k + 1) x ps (sem N.length m) := by
  refine ⟨f, fd, hmg, F.kp, hb, F.ok S (fun vs H Q E q => q.1) fun cdv A outer s H vs Q E hr q => ?_⟩
  refine ⟨_, PSs.nox (h cdv A outer s H E hr).run, ?_⟩
  obtain ⟨hl, α, ξ, St, ws, w', S', rs, rv, e, p⟩ := q
  obtain ⟨⟨fl, S1⟩, e1, e⟩ := bind_some e
  refine ⟨α, ξ, St, startD N.length ws, fl, S1, rs, re_start N rv, e1, ?_⟩
  cases fl with
  | rt w1 =>
    cases e
    exact fun α' v H' x r q => p α' v H' x r q
  | nx δ =>
    cases e
    exact fun α' σ' H' x r q => p α' .non H' x r RD.non
  | bk δ => cases e
  | ct δ => cases e
/-- every list of the store speaks of the store alone -/
def AllC (n : Nat) (S : Sto) : Prop := ∀ ws ∈ S, ∀ k, Wv.ref k ∈ ws → k < n
/-- what a def hands back, the lists that it made left out -/
def Frz (n : Nat) (S' : Sto) (w0 w : Wv) : Prop := (w0 = w ∧ ∃ x, w = .d x) ∨ ∃ l ds, w0 = .ref l ∧ n ≤ l ∧ S'[l]? = some (ds.map .d) ∧ w = .d (.list ds)
theorem allC_of {α ξ : List Addr} {S : Sto} {H : Hp} (r : RS K α ξ S H) : AllC S.length S := fun ws hw k hk => by
  obtain ⟨i, hi, e⟩ := List.mem_iff_getElem.mp hw
  have h2 : i < α.length := by rw [r.len]; exact hi
  obtain ⟨vs, _, rv⟩ := r.at_ i α[i] ws (List.getElem?_eq_getElem h2) (by rw [List.getElem?_eq_getElem hi, e])
  obtain ⟨j, hj⟩ := List.mem_iff_getElem?.mp hk
  obtain ⟨v, _, a, _, q⟩ := rws_get rv hj
  rw [← r.len]
  exact (List.getElem?_eq_some_iff.mp q).1
theorem Kn.trim {k : Nat} {x : Str} {ps : List Str} {g g' : FC} (h : Kn P w K mg base k x ps g)
    (l : ∀ ws S w S1, AllC S.length S → ws.length = ps.length → g' ws S = some (w, S1) → S1.length = S.length ∧ AllC S1.length S1 ∧ ∃ T w0, g ws S = some (w0, S1 ++ T) ∧ Frz S1.length (S1 ++ T) w0 w) : Kn P w K mg base k x ps g' := by
  obtain ⟨f, fd, h1, h2, h3, h4⟩ := h.ex
  refine ⟨f, fd, h1, h2, h3, h4.imp fun vs H Q E q => ?_⟩
  obtain ⟨hl, α, ξ, S, ws, w, S1, r, rv, e, p⟩ := q
  obtain ⟨l1, l2, T, w0, e0, fz⟩ := l ws S w S1 (allC_of r) (by rw [← Paired.length rv]; exact hl) e
  refine ⟨hl, α, ξ, S, ws, w0, S1 ++ T, r, rv, e0, fun α' v H' x r' q' => ?_⟩
  obtain ⟨β, eβ, nβ⟩ := id x.pre
  have la : α.length = S1.length := by rw [l1]; exact r.len
  have sub : ∀ {a : Addr}, a ∈ α → a ∈ α' := fun ha => by rw [eβ]; exact List.mem_append_left _ ha
  have rd : ∀ {v : V} {d : PyData}, RD K (Mb α' ξ) H' v d → RD K (Mb α ξ) H' v d := fun {v d} q => RD.mono (fun c vs h1 h2 => ⟨h1, fun m => h2 (m.elim (fun m => .inl (sub m)) .inr)⟩) (fun _ _ h => h) d v q
  have rw : ∀ {v : V} {u : Wv}, (∀ k, u = .ref k → k < α.length) → RW K α' ξ H' v u → RW K α ξ H' v u := fun {v u} hk q => by
    cases u with
    | d x => exact rd q
    | ref n =>
      obtain ⟨a, e, q⟩ := q
      refine ⟨a, e, ?_⟩
      rw [eβ, List.getElem?_append_left (hk n rfl)] at q
      exact q
    | ty n => exact q
    | tys ns => exact q
    | scr ns =>
      obtain ⟨c, e, q⟩ := q
      refine ⟨c, e, ?_⟩
      rcases q with ⟨q, n⟩ | q
      · exact .inl ⟨q, fun m => n (m.elim (fun m => .inl (sub m)) .inr)⟩
      · exact .inr q
  have xr : Ext α H α H' := ⟨⟨[], by simp, fun _ h => by simp at h⟩, x.keep, x.live⟩
  have rr : RS K α ξ S1 H' := by
    refine ⟨la, r.nd, fun i a us h1 h2 => ?_, r'.ex, fun a ha m => r'.apart a ha (sub m)⟩
    have hi : i < α.length := (List.getElem?_eq_some_iff.mp h1).1
    obtain ⟨vs', e1, q1⟩ := r'.at_ i a us (by rw [eβ, List.getElem?_append_left hi]; exact h1) (by rw [List.getElem?_append_left (by omega)]; exact h2)
    refine ⟨vs', e1, ?_⟩
    have hmem : us ∈ S1 := List.mem_of_getElem? h2
    have hall : ∀ u ∈ us, ∀ k, u = .ref k → k < α.length := fun u hu k e => by
      rw [la]; exact l2 us hmem k (by rw [← e]; exact hu)
    clear e1 h2 hmem
    induction q1 with
    | nil => exact .nil
    | cons q t ih => exact .cons (rw (hall _ List.mem_cons_self) q) (ih fun u hu => hall u (List.mem_cons_of_mem _ hu))
  refine p α v H' xr rr ?_
  rcases fz with ⟨rfl, x', rfl⟩ | ⟨l, ds, rfl, hl2, hS, rfl⟩
  · exact rd q'
  · obtain ⟨a, rfl, qa⟩ := q'
    obtain ⟨vs', e1, q1⟩ := r'.at_ l a _ qa hS
    refine RD.lst e1 (fun m => ?_) (RDs.mono (fun c vs h1 h2 => ⟨h1, fun m => h2 (m.elim (fun m => .inl (sub m)) .inr)⟩) (fun _ _ h => h) _ _ (rds_of_rws q1))
    rcases m with m | m
    · obtain ⟨i, hi, ei⟩ := List.mem_iff_getElem.mp m
      have : i = l := nodup_get r'.nd (by rw [eβ, List.getElem?_append_left hi, List.getElem?_eq_getElem hi, ei]) qa
      omega
    · exact r'.apart a m (List.mem_of_getElem? qa)
end
end K15
set_option Elab.async false
set_option linter.all false
set_option maxRecDepth 100000
set_option maxHeartbeats 4000000
set_option autoImplicit false
namespace K15
open PySem PySem.Spec PyProof.Rows L2
/-! ### zip of lists and tuples in any mix: t true: a tuple -/
def SqB (K : PySem.W.Frag) (t : Bool) (H : Hp) (a : Addr) (xs : List V) : Prop := match t with
  | true => SqT K H a xs
  | false => SqL K H a xs
def ItB (t : Bool) (h : Heap) (it l : Addr) (i : Nat) : Prop := match t with
  | true => h.IsTupleIter it l i
  | false => h.IsListIter it l i
def IsB (t : Bool) (h : Heap) (l : Addr) (items : Array Value) : Prop := match t with
  | true => h.IsTuple l items
  | false => h.IsList l items
theorem ItB.obj {t : Bool} {h : Heap} {it l : Addr} {i : Nat} (x : ItB t h it l i) : ∃ o vs, h.get? it = some o ∧ o.data = .fields vs := by
  cases t with
  | true => obtain ⟨o, e, _, d⟩ := x; exact ⟨o, _, e, d⟩
  | false => obtain ⟨o, e, _, d⟩ := x; exact ⟨o, _, e, d⟩
theorem ItB.at_ {t : Bool} {h h' : Heap} {it l : Addr} {i : Nat} (x : ItB t h it l i) (k : ∀ o, h.get? it = some o → h'.get? it = some o) : ItB t h' it l i := by
  cases t with
  | true => exact Heap.IsTupleIter.at (show h.IsTupleIter it l i from x) k
  | false => exact Heap.IsListIter.at (show h.IsListIter it l i from x) k
theorem drawsB {prog : Program} {w : World} {A : Around} (hh : A.handled = none) (t : Bool) (it l : Addr) (hne : l ≠ it) (items : Array Value) :
    Draws prog w A it [it, l] items.size (fun i v => items[i]? = some v) (fun i h => ItB t h it l i ∧ IsB t h l items) := by
  cases t with
  | true => exact Draws.tuple hh it l hne items
  | false => exact Draws.list hh it l hne items
section
variable {X : Cx} {pins : List (Addr × Obj)} {σ : L2.St} {H : Hp} {s : Shared}
theorem seqB (I : Inv X pins σ H s) {t : Bool} {a : Addr} {xs : List V} (h : SqB X.K t H a xs) : ∃ its : List Value, Vals xs its ∧ IsB t s.heap a its.toArray := by
  cases t with
  | true =>
    obtain ⟨its, r, p, _⟩ := I.tuple (show SqT X.K H a xs from h)
    exact ⟨its, r, p⟩
  | false =>
    obtain ⟨its, r, p, _⟩ := I.list (show SqL X.K H a xs from h)
    exact ⟨its, r, p.isList⟩
theorem injB (I : Inv X pins σ H s) {t : Bool} {a : Addr} {xs ys : List V} (h : SqB X.K t H a xs) (h' : SqB X.K t H a ys) : xs = ys := by
  cases t with
  | true => exact I.tuple_inj h h'
  | false => exact I.list_inj h h'
theorem IsB.lt {t : Bool} {h : Heap} {l : Addr} {items : Array Value} (x : IsB t h l items) : l < h.objs.size := by
  cases t with
  | true => obtain ⟨o, e, _⟩ := (show h.IsTuple l items from x); exact Heap.lt_size e
  | false => obtain ⟨o, e, _⟩ := (show h.IsList l items from x); exact Heap.lt_size e
end
theorem ne_it {X : Cx} {pins : List (Addr × Obj)} {σ : L2.St} {H : Hp} {s : Shared} (I : Inv X pins σ H s) {t : Bool} {a it l : Addr} {i : Nat} {xs : List V} (hn : H it = none) (st : ItB t s.heap it l i) (h : SqB X.K t H a xs) : a ≠ it := fun e => by
  subst e
  cases t with
  | true =>
    rcases (show SqT X.K H a xs from h) with (h | ⟨o, h⟩) | ⟨o, its', n, h, hcls, _⟩
    · rw [hn] at h; cases h
    · rw [hn] at h; cases h
    · obtain ⟨o', e', c', _⟩ := st
      have e2 := Option.some.inj ((I.kIn _ _ h).symm.trans e')
      rw [e2, c'] at hcls
      exact absurd (Value.type.inj hcls) (by decide)
  | false =>
    rcases (show SqL X.K H a xs from h) with (h | ⟨o, h⟩) | ⟨o, its', n, h, hcls, _⟩
    · rw [hn] at h; cases h
    · rw [hn] at h; cases h
    · obtain ⟨o', e', c', _⟩ := st
      have e2 := Option.some.inj ((I.kIn _ _ h).symm.trans e')
      rw [e2, c'] at hcls
      exact absurd (Value.type.inj hcls) (by decide)
def ItX (K : PySem.W.Frag) (t1 t2 : Bool) (a b : Addr) : It :=
  ⟨fun i H => ∃ (xs ys : List V) (x y : V), SqB K t1 H a xs ∧ SqB K t2 H b ys ∧ xs[i]? = some x ∧ ys[i]? = some y,
    fun i H v H' => ∃ T x y, v = .ref T ∧ H T = none ∧ H' = upd H T (.tup [x, y]) ∧ (∀ xs, SqB K t1 H a xs → xs[i]? = some x) ∧ ∀ ys, SqB K t2 H b ys → ys[i]? = some y,
    fun i H => ∃ xs ys : List V, SqB K t1 H a xs ∧ SqB K t2 H b ys ∧ i ≤ xs.length ∧ i ≤ ys.length ∧ (i = xs.length ∨ i = ys.length)⟩
theorem turn_zipX {P : Program} {w : World} {K : PySem.W.Frag} {elts : List Expr} {kk : Nat} {tpos : Pos} {t1 t2 : Bool} {a b z TI TO i1 i2 : Addr} (D : ZipSep2 z TI TO i1 i2 [i1, a] [i2, b]) :
    Turn P w K (.Tuple elts kk tpos) (ItX K t1 t2 a b) [z, TI, TO, i1, i2] z (fun i h => IsZip h z TI TO .none ∧ IsTupOf2 h TI (.ref i1) (.ref i2) ∧ (∃ x y, IsTupOf2 h TO x y) ∧ ItB t1 h i1 a i ∧ ItB t2 h i2 b i) where
  mem := by simp
  obj := fun i h st c hc => by
    obtain ⟨hz, hTI, ⟨x, y, hTO⟩, h1, h2⟩ := st
    obtain ⟨o1, v1, e1, d1⟩ := h1.obj
    obtain ⟨o2, v2, e2, d2⟩ := h2.obj
    simp only [List.mem_cons, List.not_mem_nil, or_false] at hc
    rcases hc with rfl | rfl | rfl | rfl | rfl
    · exact ⟨_, hz, fun v q => nomatch q⟩
    · exact ⟨_, hTI, fun v q => nomatch q⟩
    · exact ⟨_, hTO, fun v q => nomatch q⟩
    · exact ⟨o1, e1, fun v q => by rw [d1] at q; cases q⟩
    · exact ⟨o2, e2, fun v q => by rw [d2] at q; cases q⟩
  keep := fun i h h' st k => by
    obtain ⟨hz, hTI, ⟨x, y, hTO⟩, h1, h2⟩ := st
    exact ⟨k z (by simp) _ hz, k TI (by simp) _ hTI, ⟨x, y, k TO (by simp) _ hTO⟩, h1.at_ fun o q => k i1 (by simp) o q, h2.at_ fun o q => k i2 (by simp) o q⟩
  item := by
    intro X hP hw hK hc i pins s σ H E I hf st hg
    subst hP hw hK
    obtain ⟨hz, hTI, ⟨x0, y0, hTO⟩, h1, h2⟩ := st
    obtain ⟨xs, ys, x, y, hqx, hqy, hx, hy⟩ := hg
    obtain ⟨its, rv, p⟩ := seqB I hqx
    obtain ⟨its2, rv2, p2⟩ := seqB I hqy
    obtain ⟨u, hu, ru⟩ := rv.get hx
    obtain ⟨u2, hu2, ru2⟩ := rv2.get hy
    have ne1 : a ≠ i1 := ne_it I (hf i1 (by simp)).1 h1 hqx
    have ne2 : b ≠ i2 := ne_it I (hf i2 (by simp)).1 h2 hqy
    have hzl : z < s.heap.objs.size := Heap.lt_size hz
    have hh : X.A.in1.handled = none := I.ok.hd hc
    refine wpAny_pyNext_zipD2_item D (drawsB hh t1 i1 a ne1 its.toArray) (drawsB hh t2 i2 b ne2 its2.toArray) hz hTI hTO ⟨h1, p⟩ ⟨h2, p2⟩ (by
      have := (List.getElem?_eq_some_iff.mp hu).1
      simpa using this) (by
      have := (List.getElem?_eq_some_iff.mp hu2).1
      simpa using this) fun x1 x2 h' tk g1 g2 z' TO' s1 s2 hT hsz hk => ?_
    have ex1 : x1 = u := by
      have : its[i]? = some x1 := by simpa using g1
      rw [hu] at this
      exact (Option.some.inj this).symm
    have ex2 : x2 = u2 := by
      have : its2[i]? = some x2 := by simpa using g2
      rw [hu2] at this
      exact (Option.some.inj this).symm
    subst ex1 ex2
    refine ⟨_, rfl, wpAny_letOwnedTupleGo_zip (s := { s with heap := h', toks := tk }) z' fun h'' z'' sb => ?_⟩
    have hT2 : h''.get? s.heap.objs.size = some { cls := .type "tuple", data := .seq #[x1, x2] } := (sb.2 _ (Nat.ne_of_gt hzl)).trans hT
    have new : ObjOk X.prog X.w (upd H s.heap.objs.size (.tup [x, y])) h'' s.heap.objs.size (.tup [x, y]) :=
      ⟨by show 2 ≤ sizeLine; decide, [x1, x2], .cons ru (.cons ru2 .nil), ⟨_, hT2, rfl, _, rfl⟩⟩
    have I1 : Inv X pins σ (upd H s.heap.objs.size (.tup [x, y])) { s with heap := h'', toks := tk } :=
      I.turnedNew (ch := [z, TI, TO, i1, i2]) (fun c o hb q => (sb.2 c (fun q' => hb (by simp [q']))).trans (hk c o (fun q' => hb (by simp [q'])) (fun q' => hb (by simp [q'])) (fun q' => hb (by simp [q'])) (fun q' => hb (by simp [q'])) q)) hf (Nat.le_refl _) new
    refine ⟨.ref s.heap.objs.size, _, I1, rfl, ⟨_, x, y, rfl, I.hok.fresh (Nat.le_refl _), rfl, fun l hl => by rw [injB I hl hqx]; exact hx, fun l hl => by rw [injB I hl hqy]; exact hy⟩, ⟨z'', ?_, ⟨x1, x2, ?_⟩, ?_, ?_⟩, fun c hcm => ?_⟩
    · exact (sb.2 _ D.TIz).trans (hk _ _ D.TIz D.TITO D.TIi1 D.TIi2 hTI)
    · exact (sb.2 _ D.TOz).trans TO'
    · exact s1.1.at_ fun o q => (sb.2 _ D.zi1.symm).trans q
    · exact s2.1.at_ fun o q => (sb.2 _ D.zi2.symm).trans q
    · have hlt : c < s.heap.objs.size := by
        obtain ⟨o1, _, e1, _⟩ := h1.obj
        obtain ⟨o2, _, e2, _⟩ := h2.obj
        simp only [List.mem_cons, List.not_mem_nil, or_false] at hcm
        rcases hcm with rfl | rfl | rfl | rfl | rfl
        · exact hzl
        · exact Heap.lt_size hTI
        · exact Heap.lt_size hTO
        · exact Heap.lt_size e1
        · exact Heap.lt_size e2
      rw [upd_ne (Nat.ne_of_lt hlt)]
      exact (hf c hcm).1
  done := by
    intro X hP hw hK hc i pins s σ H E I hf st hg
    subst hP hw hK
    obtain ⟨hz, hTI, ⟨x0, y0, hTO⟩, h1, h2⟩ := st
    obtain ⟨xs, ys, hqx, hqy, hl1, hl2, hend⟩ := hg
    obtain ⟨its, rv, p⟩ := seqB I hqx
    obtain ⟨its2, rv2, p2⟩ := seqB I hqy
    have l1 := rv.length
    have l2 := rv2.length
    have ne1 : a ≠ i1 := ne_it I (hf i1 (by simp)).1 h1 hqx
    have ne2 : b ≠ i2 := ne_it I (hf i2 (by simp)).1 h2 hqy
    have hh : X.A.in1.handled = none := I.ok.hd hc
    exact wpAny_pyNext_zipD2_end D (drawsB hh t1 i1 a ne1 its.toArray) (drawsB hh t2 i2 b ne2 its2.toArray) hz hTI hTO ⟨h1, p⟩ ⟨h2, p2⟩ (by simp; omega) (by simp; omega) (by simp; omega) fun h' tk hk => ⟨rfl, I.turnedL (ch := [z, TI, TO, i1, i2]) (fun c o hb q =>
      hk c o (fun q' => hb (by simp [q'])) (fun q' => hb (by simp [q'])) (fun q' => hb (by simp [q'])) (fun q' => hb (by simp [q'])) q) hf⟩
  self := fun A i s Q E st h => wpAny_pyIter_zip st.1 h
def BgO (t : Bool) (a : Addr) : Obj := match t with
  | true => { cls := .type "tuple_iterator", data := .fields #[.ref a, .int 0 0] }
  | false => { cls := .type "list_iterator", data := .fields #[.ref a, .int 0 0] }
theorem beginsB (t : Bool) (a : Addr) (items : Array Value) : Begins (.ref a) (BgO t a) (fun h => IsB t h a items) := by
  cases t with
  | true => exact begins_tuple a items
  | false => exact begins_list a items
theorem itB_new {t : Bool} {a it : Addr} {h : Heap} (e : h.get? it = some (BgO t a)) : ItB t h it a 0 := by
  cases t with
  | true => exact ⟨_, e, rfl, rfl⟩
  | false => exact ⟨_, e, rfl, rfl⟩
def iZipX (K : PySem.W.Frag) (ta : TA) : TI := fun σ H R => ta σ H fun vs H1 => ∃ a b t1 t2 xs ys, vs = [.ref a, .ref b] ∧ SqB K t1 H1 a xs ∧ SqB K t2 H1 b ys ∧ R (ItX K t1 t2 a b) H1
theorem pi_zipX {X : Cx} {e e2 : Expr} {ta : TA} {p pos tpos : Pos} {elts : List Expr} {kk : Nat} (hg : Gl X "zip") (hm : X.mg "zip" = none) (ha : PA X [e, e2] ta)
    (hs : starEach [e, e2] X.env = (false, eval e X.env) :: starEach [e2] X.env := by rfl) (hpl : (backTo pos (starEach [e2] X.env)).any (·.1) = false := by rfl) :
    PI X (.Tuple elts kk tpos) (.Call (.Name "zip" p) [e, e2] [] pos) (iZipX X.K ta) := by
  refine ⟨fun pins s σ H R I h => ?_⟩
  refine Call_ (ld_blt I hg hm PyProof.Rows.boot_zip (PyProof.Rows.callWith_type1 (thn (ha.run pos pins s σ H _ I h) fun us s1 ⟨vs, H1, I1, r1, q1⟩ => ?_) hs hpl))
  obtain ⟨a, b, t1, t2, xs, ys, ex, hqx, hqy, q⟩ := q1
  subst ex
  cases r1 with
  | cons r rr =>
    cases rr with
    | cons r' rr =>
      cases rr
      cases r
      cases r'
      have fresh5 : ∀ c, c ∈ [s1.heap.objs.size + 4, s1.heap.objs.size + 2, s1.heap.objs.size + 3, s1.heap.objs.size, s1.heap.objs.size + 1] → FpOk X pins H1 c := fun c hcm => by
        have e' : c = s1.heap.objs.size + 4 ∨ c = s1.heap.objs.size + 2 ∨ c = s1.heap.objs.size + 3 ∨ c = s1.heap.objs.size ∨ c = s1.heap.objs.size + 1 := by simpa using hcm
        have hle : s1.heap.objs.size ≤ c := by
          rcases e' with z | z | z | z | z
          · rw [z]; exact Nat.le_add_right _ _
          · rw [z]; exact Nat.le_add_right _ _
          · rw [z]; exact Nat.le_add_right _ _
          · rw [z]; exact Nat.le_refl _
          · rw [z]; exact Nat.le_add_right _ _
        exact I1.fpOk hle (I1.hok.fresh hle)
      obtain ⟨its, rv, p1⟩ := seqB I1 hqx
      obtain ⟨its2, rv2, p2⟩ := seqB I1 hqy
      refine zip_begins2 (beginsB t1 a its.toArray) (beginsB t2 b its2.toArray) p1 p2 fun h' hz hTI hTO h1 h2 hsz hk => wpAny_pyIter_zip hz ?_
      have I2 : Inv X pins σ H1 { s1 with heap := h' } := I1.kept (t' := s1.toks) hk
      refine ⟨s1.heap.objs.size + 4, [s1.heap.objs.size + 4, s1.heap.objs.size + 2, s1.heap.objs.size + 3, s1.heap.objs.size, s1.heap.objs.size + 1], _, _, H1, rfl, I2, turn_zipX (K := X.K) (a := a) (b := b) ?_, ⟨hz, hTI, ⟨_, _, hTO⟩, itB_new h1, itB_new h2⟩, fresh5, q⟩
      have la := p1.lt
      have lb := p2.lt
      have la' : @LT.lt Nat _ a s1.heap.objs.size := la
      have lb' : @LT.lt Nat _ b s1.heap.objs.size := lb
      constructor <;> simp
      all_goals
        intro e
        first
          | (have e' : @Eq Nat (s1.heap.objs.size + 4) b := e; omega)
          | (have e' : @Eq Nat (s1.heap.objs.size + 4) a := e; omega)
          | (have e' : @Eq Nat (s1.heap.objs.size + 3) b := e; omega)
          | (have e' : @Eq Nat (s1.heap.objs.size + 3) a := e; omega)
          | (have e' : @Eq Nat (s1.heap.objs.size) b := e; omega)
          | (have e' : @Eq Nat (s1.heap.objs.size + 1) a := e; omega)
/-! ### the sources -/
def rdSq (S : Sto) : Wv → Option (Bool × List Wv)
  | .d (.tuple ds) => some (true, ds.map .d)
  | w => (rdL S w).map fun ws => (false, ws)
section
variable {X : Cx} {tg a b : Expr} {ma mb : ME} {K : PySem.W.Frag}
theorem sq_src {α ξ : List Addr} {S : Sto} {H : Hp} {v : V} {w : Wv} (r : RS K α ξ S H) (h : RW K α ξ H v w) {t : Bool} {ws : List Wv} (e : rdSq S w = some (t, ws)) : ∃ a, v = .ref a ∧ (∃ vs, SqB K t H a vs) ∧
    ∀ α1 ξ1 S1 H1, Ext α H α1 H1 → (∀ c ∈ ξ1, c ∈ ξ ∨ H c = none) → RS K α1 ξ1 S1 H1 → ∃ vs us, SqB K t H1 a vs ∧ RWs K α1 ξ1 H1 vs us ∧ rdSq S1 w = some (t, us) := by
  by_cases ht : ∃ ds, w = .d (.tuple ds)
  · obtain ⟨ds, rfl⟩ := ht
    cases e
    obtain ⟨c, vs, rfl, hvs, rd⟩ := rdT_ok (ds := ds) h rfl
    refine ⟨c, rfl, ⟨vs, hvs⟩, fun α1 ξ1 S1 H1 x hx r1 => ?_⟩
    exact ⟨vs, ds.map .d, x.tup r hvs, (rws_of_rds rd).mono fun _ _ z => x.rwx hx r z, rfl⟩
  · have key : ∀ S, rdSq S w = (rdL S w).map fun ws => (false, ws) := fun S => by
      cases w with
      | d y =>
        cases y with
        | tuple ds => exact absurd ⟨ds, rfl⟩ ht
        | _ => rfl
      | _ => rfl
    rw [key] at e
    cases e2 : rdL S w with
    | none => rw [e2] at e; cases e
    | some us =>
      rw [e2] at e
      cases e
      obtain ⟨c, rfl, hvs, k⟩ := rdL_src r h e2
      refine ⟨c, rfl, hvs, fun α1 ξ1 S1 H1 x hx r1 => ?_⟩
      obtain ⟨vs, us, h1, h2, h3⟩ := k α1 ξ1 S1 H1 x hx r1
      exact ⟨vs, us, h1, h2, by rw [key, h3]; rfl⟩
def gZ (w1 w2 : Wv) : Gt := fun S i => (rdSq S w1).bind fun p => (rdSq S w2).bind fun q => if i < p.2.length ∧ i < q.2.length then (match p.2[i]?, q.2[i]? with
  | some (.d x), some (.d y) => some (some (.d (.tuple [x, y])))
  | _, _ => none) else if i ≤ p.2.length ∧ i ≤ q.2.length then some none else none
def mZip (a b : ME) : MI := fun δ S => (a δ S).bind fun p => (b δ p.2).bind fun q => (rdSq q.2 p.1).bind fun x => (rdSq q.2 q.1).bind fun y => some ((x.2.length, gZ p.1 q.1), q.2)
theorem getB {α ξ : List Addr} {H : Hp} {vs : List V} {us : List Wv} (h : RWs K α ξ H vs us) {i : Nat} : (us[i]? = none → i ≤ us.length → i = vs.length) := fun e l => by
  have := Paired.length h
  have := List.getElem?_eq_none_iff.mp e
  omega
theorem di_zip {p pos tpos : Pos} {elts : List Expr} {kk : Nat} (hg : Gl X "zip") (hm : X.mg "zip" = none) (ha : DE X a ma) (hb : DE X b mb)
    (hs : starEach [a, b] X.env = (false, eval a X.env) :: starEach [b] X.env := by rfl) (hs2 : starEach [b] X.env = (false, eval b X.env) :: starEach [] X.env := by rfl) (hpl : (backTo pos (starEach [b] X.env)).any (·.1) = false := by rfl) :
    DI X (.Tuple elts kk tpos) (.Call (.Name "zip" p) [a, b] [] pos) (mZip ma mb) := by
  refine ⟨piMono (pi_zipX hg hm (pa_cons ha.run (pa_cons hb.run pa_nil hs2) hs) hs hpl) fun σ H R h => ?_⟩
  obtain ⟨α, ξ, S, δ, s, S', rs, re, hm, q⟩ := h
  obtain ⟨⟨w1, S1⟩, e1, hm2⟩ := bind_some hm
  obtain ⟨⟨w2, S2⟩, e2, hm3⟩ := bind_some hm2
  obtain ⟨⟨t1, xs⟩, e3, hm4⟩ := bind_some hm3
  obtain ⟨⟨t2, ys⟩, e4, hm5⟩ := bind_some hm4
  cases hm5
  refine tD_go rs re e1 fun α1 v1 H1 x1 r1 q1 re1 => ?_
  refine tD_go r1 re1 e2 fun α2 v2 H2 x2 r2 q2 re2 => ?_
  obtain ⟨c, rfl, ⟨vs, hvs⟩, k⟩ := sq_src r2 (x2.rw r1 q1) e3
  obtain ⟨c', rfl, ⟨vs', hvs'⟩, k'⟩ := sq_src r2 q2 e4
  refine ⟨c, c', t1, t2, vs, vs', rfl, hvs, hvs', q α2 H2 _ (x1.trans x2) r2 fun α3 ξ3 S3 H3 x3 hx r3 i => ?_⟩
  obtain ⟨zs, us, hz, rz, ez⟩ := k α3 ξ3 S3 H3 x3 hx r3
  obtain ⟨zs', us', hz', rz', ez'⟩ := k' α3 ξ3 S3 H3 x3 hx r3
  have l1 := Paired.length rz
  have l2 := Paired.length rz'
  have key : gZ w1 w2 S3 i = (if i < us.length ∧ i < us'.length then (match us[i]?, us'[i]? with
    | some (.d x), some (.d y) => some (some (.d (.tuple [x, y])))
    | _, _ => none) else if i ≤ us.length ∧ i ≤ us'.length then some none else none) := by
    unfold gZ
    rw [ez, Option.bind_some, ez', Option.bind_some]
  have nd : gZ w1 w2 S3 i = some none → i ≤ us.length ∧ i ≤ us'.length ∧ (i = us.length ∨ i = us'.length) := fun e => by
    rw [key] at e
    split at e
    · split at e <;> cases e
    · split at e
      · omega
      · cases e
  refine ⟨fun w hw => ?_, fun hw => ?_⟩
  · have hw : gZ w1 w2 S3 i = some (some w) := hw
    rw [key] at hw
    split at hw
    rotate_left
    · split at hw <;> cases hw
    split at hw
    · rename_i x y ex ey
      cases hw
      obtain ⟨u, hu, ru⟩ := rws_get rz ex
      obtain ⟨u', hu', ru'⟩ := rws_get rz' ey
      refine ⟨⟨zs, zs', u, u', hz, hz', hu, hu'⟩, fun v H' yy => ?_⟩
      obtain ⟨T, x', y', rfl, hT, rfl, f1, f2⟩ := yy
      have e5 : x' = u := Option.some.inj ((f1 zs hz).symm.trans hu)
      have e6 : y' = u' := Option.some.inj ((f2 zs' hz').symm.trans hu')
      subst e5 e6
      have xn : Ext α3 H3 α3 (upd H3 T (.tup [x', y'])) := ext_new hT
      refine ⟨xn, r3.new hT, ?_⟩
      exact RD.tup (SqT.of upd_same) (.cons (xn.rd r3 ru) (.cons (xn.rd r3 ru') .nil))
    · cases hw
  · obtain ⟨n1, n2, n3⟩ := nd hw
    exact ⟨zs, zs', hz, hz', by omega, by omega, by omega⟩
def gE (w : Wv) : Gt := fun S i => (rdL S w).bind fun ws => match ws[i]? with
  | some (.d x) => some (some (.d (.tuple [.int (i : Nat), x])))
  | none => some none
  | _ => none
def mEnum (a : ME) : MI := fun δ S => (a δ S).bind fun p => (rdL p.2 p.1).map fun ws => ((ws.length, gE p.1), p.2)
theorem di_enum {p pos tpos : Pos} {elts : List Expr} {kk : Nat} (hg : Gl X "enumerate") (hm : X.mg "enumerate" = none) (ha : DE X a ma) (hs : starEach [a] X.env = [(false, eval a X.env)] := by rfl) :
    DI X (.Tuple elts kk tpos) (.Call (.Name "enumerate" p) [a] [] pos) (mEnum ma) := by
  refine ⟨piMono (pi_enum hg hm (pa_cons ha.run pa_nil (by rw [hs]; rfl)) hs) fun σ H R h => ?_⟩
  obtain ⟨α, ξ, S, δ, s, S', rs, re, hm, q⟩ := h
  obtain ⟨⟨w1, S1⟩, e1, hm2⟩ := bind_some hm
  refine tD_go rs re e1 fun α1 v1 H1 x1 r1 q1 re1 => ?_
  cases e : rdL S1 w1 with
  | none => simp only [e] at hm2; cases hm2
  | some ws =>
    simp only [e] at hm2
    cases hm2
    obtain ⟨c, rfl, hvs, k⟩ := rdL_src r1 q1 e
    obtain ⟨vs0, hvs0⟩ := hvs
    refine ⟨c, vs0, rfl, hvs0, q α1 H1 _ x1 r1 fun α2 ξ2 S2 H2 x2 hx r2 i => ?_⟩
    obtain ⟨vs, us, hs, rv, eu⟩ := k α2 ξ2 S2 H2 x2 hx r2
    have hlen := Paired.length rv
    have key : gE w1 S2 i = (match us[i]? with
      | some (.d x) => some (some (.d (.tuple [.int (i : Nat), x])))
      | none => some none
      | _ => none) := by
      unfold gE
      rw [eu, Option.bind_some]
    refine ⟨fun w hw => ?_, fun hw => ?_⟩
    · have hw : gE w1 S2 i = some (some w) := hw
      rw [key] at hw
      split at hw
      · rename_i x ex
        cases hw
        obtain ⟨u, hu, ru⟩ := rws_get rv ex
        refine ⟨⟨vs, u, hs, hu⟩, fun v H' y => ?_⟩
        obtain ⟨T, x', rfl, hT, rfl, f1⟩ := y
        have e5 : x' = u := Option.some.inj ((f1 vs hs).symm.trans hu)
        subst e5
        have xn : Ext α2 H2 α2 (upd H2 T (.tup [.int (i : Nat), x'])) := ext_new hT
        refine ⟨xn, r2.new hT, ?_⟩
        exact RD.tup (SqT.of upd_same) (.cons (.int _) (.cons (xn.rd r2 ru) .nil))
      · cases hw
      · cases hw
    · have hw : gE w1 S2 i = some none := hw
      rw [key] at hw
      split at hw
      · cases hw
      · rename_i e5
        exact ⟨vs, hs, by rw [hlen]; exact List.getElem?_eq_none_iff.mp e5⟩
      · cases hw
/-- list(range(n)) -/
def mListRg (a : ME) : MF := fun δ S => (a δ S).bind fun p => match p.1 with
  | .d (.int n) => if 0 ≤ n ∧ n ≤ 1000000 then some ((List.range n.toNat).map fun (i : Nat) => .d (.int (i : Int)), p.2) else none
  | _ => none
theorem rws_rg {α ξ : List Addr} {H : Hp} : ∀ (l : List Nat), RWs K α ξ H (l.map fun (i : Nat) => V.int (0 + (i : Int))) (l.map fun (i : Nat) => Wv.d (.int (i : Int)))
  | [] => .nil
  | a :: l => .cons (show RD K _ H (V.int (0 + (a : Int))) (.int (a : Int)) by rw [Int.zero_add]; exact .int _) (rws_rg l)
theorem df_listRg {p p2 pos pos2 : Pos} (hc : X.calm = true) (hg : Gl X "list") (hm : X.mg "list" = none) (hg2 : Gl X "range") (hm2 : X.mg "range" = none) (ha : DE X a ma)
    (na : starEach [a] X.env = (false, eval a X.env) :: starEach [] X.env := by rfl)
    (nb : starEach [Expr.Call (.Name "range" p2) [a] [] pos2] X.env = (false, eval (.Call (.Name "range" p2) [a] [] pos2) X.env) :: starEach [] X.env := by rfl) :
    DF X (.Call (.Name "list" p) [.Call (.Name "range" p2) [a] [] pos2] [] pos) (mListRg ma) := by
  refine ⟨peMono (pe_listRg hc hg hm (prg_1 hg2 hm2 ha.run na) nb) fun σ H Q h => ?_⟩
  obtain ⟨α, ξ, S, δ, us, S', rs, re, hm, q⟩ := h
  obtain ⟨⟨w1, S1⟩, e1, hm2⟩ := bind_some hm
  refine tD_go rs re e1 fun α1 v1 H1 x1 r1 q1 re1 => ?_
  simp only at hm2
  split at hm2
  · rename_i n
    split at hm2
    · rename_i hc
      cases hm2
      cases q1
      refine ⟨n, rfl, RgOk.of_le (by omega) (by omega) (by omega) (by omega), fun p hp => ?_⟩
      have ev : rgV 0 n = (List.range n.toNat).map fun (i : Nat) => V.int (0 + (i : Int)) := by unfold rgV; rw [Int.sub_zero]
      rw [ev]
      exact q α1 _ H1 p x1 r1 hp (rws_rg _)
    · cases hm2
  · cases hm2
end
end K15
set_option Elab.async false
set_option linter.all false
set_option maxRecDepth 100000
set_option maxHeartbeats 4000000
set_option autoImplicit false
namespace K15
open PySem PySem.Spec PyProof.Rows L2
/-! ### keywords alone; raise CanNot(); try .. except CanNot as flaw -/
structure DK (X : Cx) (kws : List Keyword) (m : MA) : Prop where
  run : PK X kws (tDA X.K m)
theorem pkMono {X : Cx} {kws : List Keyword} {t t' : TA} (h : PK X kws t) (k : ∀ σ H Q, t' σ H Q → t σ H Q) : PK X kws t' := ⟨fun pos pins s σ H Q I q => h.run pos pins s σ H Q I (k σ H Q q)⟩
section
variable {X : Cx} {e : Expr} {kws : List Keyword} {ma : ME} {mr : MA} {nm : Option Str} {kpos : Pos}
theorem dk_nil : DK X [] mNil := by
  refine ⟨pkMono pk_nil fun σ H Q h => ?_⟩
  obtain ⟨α, ξ, S, δ, ws, S', rs, re, hm, q⟩ := h
  cases hm
  exact q α [] H Ext.refl rs .nil
theorem dk_cons (ha : DE X e ma) (hr : DK X kws mr) : DK X (⟨nm, e, kpos⟩ :: kws) (mCons ma mr) := by
  refine ⟨pkMono (pk_cons ha.run hr.run) fun σ H Q h => ?_⟩
  obtain ⟨α, ξ, S, δ, ws, S', rs, re, hm, q⟩ := h
  obtain ⟨⟨w1, S1⟩, e1, hm⟩ := bind_some hm
  obtain ⟨⟨w2, S2⟩, e2, hm⟩ := bind_some hm
  cases hm
  refine tD_go rs re e1 fun α1 v1 H1 x1 r1 q1 re1 => ?_
  exact tDA_go r1 re1 e2 fun α2 v2 H2 x2 r2 q2 _ => q α2 _ H2 (x1.trans x2) r2 (.cons (x2.rw r1 q1) q2)
end
/-- how keywords alone are put in order -/
structure Ord (g : {β : Type} → List β → List β) : Prop where
  rel : ∀ {β γ : Type} {R : β → γ → Prop} {xs : List β} {ys : List γ}, Paired R xs ys → Paired R (g xs) (g ys)
def BindsKw (K : PySem.W.Frag) (fd : FuncData) (ps ks : List Str) (g : {β : Type} → List β → List β) : Prop := ∀ (s : Shared) (ws : List Value), ws.length = ks.length → BindsTo s fd ⟨[], ks.zip ws⟩ (ps.zip (g ws))
theorem bindsKw_of {K : PySem.W.Frag} {x qual : Str} {params : Arguments} {body : List Stmt} {scope : Scope} {f : Addr} {fd : FuncData} {ps ks : List Str} {g : {β : Type} → List β → List β} (F : FunD K x qual params body scope [] [] f fd)
    (h : ∀ (kV doc pm : Value) (an : Option Addr) (cdv ct : Value) (us : List Value), us.length = ks.length → bindArgs (PySem.W.fnOf x qual params body scope .none kV doc pm an cdv ct) ⟨[], ks.zip us⟩ = pure (ps.zip (g us))) : BindsKw K fd ps ks g := by
  obtain ⟨oc, od, dV, kV, doc, pm, an, cdv, ct, osl, rfl, lk, hcd, hD, hK⟩ := F.ex
  rcases hD with ⟨_, rfl⟩ | ⟨e, _⟩
  · exact fun s ws hl => .of_eq (h kV doc pm an cdv ct ws hl)
  · exact absurd rfl e
def g2 {β : Type} : List β → List β
  | [a, b] => [b, a]
  | l => l
def g3 {β : Type} : List β → List β
  | [a, b, c] => [c, b, a]
  | l => l
theorem ord_g2 : Ord g2 := ⟨fun {β γ R xs ys} h => by
  cases h with
  | nil => exact .nil
  | cons r1 t =>
    cases t with
    | nil => exact .cons r1 .nil
    | cons r2 t =>
      cases t with
      | nil => exact .cons r2 (.cons r1 .nil)
      | cons r3 t => exact .cons r1 (.cons r2 (.cons r3 t))⟩
theorem ord_g3 : Ord g3 := ⟨fun {β γ R xs ys} h => by
  cases h with
  | nil => exact .nil
  | cons r1 t =>
    cases t with
    | nil => exact .cons r1 .nil
    | cons r2 t =>
      cases t with
      | nil => exact .cons r1 (.cons r2 .nil)
      | cons r3 t =>
        cases t with
        | nil => exact .cons r3 (.cons r2 (.cons r1 .nil))
        | cons r4 t => exact .cons r1 (.cons r2 (.cons r3 (.cons r4 t)))⟩
/-- a def called with keywords alone -/
structure KnK (P : Program) (w : World) (K : PySem.W.Frag) (mg : Str → Option Value) (base : Heap) (k : Nat) (x : Str) (ps ks : List Str) (g : {β : Type} → List β → List β) (m : FC) : Prop where
  ex : ∃ (f : Addr) (fd : FuncData), mg x = some (.ref f) ∧ PySem.W.keepIn K (.ref f) = true ∧ BindsKw K fd ps ks g ∧ FnOk P w K mg base CX0 k f fd ps (spD K ps.length m)
section
variable {P : Program} {w : World} {K : PySem.W.Frag} {mg : Str → Option Value} {base : Heap} {j k : Nat} {x : Str} {ps ks : List Str} {g : {β : Type} → List β → List β} {m m' : FC}
theorem KnK.mono (h : KnK P w K mg base j x ps ks g m) (l : j ≤ k) : KnK P w K mg base k x ps ks g m := by
  obtain ⟨f, fd, h1, h2, h3, h4⟩ := h.ex
  exact ⟨f, fd, h1, h2, h3, h4.mono l⟩
end
def mCallK (f : FC) (g : {β : Type} → List β → List β) (a : MA) : ME := fun δ S => (a δ S).bind fun p => f (g p.1) p.2
section
variable {X : Cx} {k : Nat} {x : Str} {ps ks : List Str} {g : {β : Type} → List β → List β} {m : FC} {p pos : Pos} {kws : List Keyword} {mr : MA}
theorem paired_len {β γ : Type} {R : β → γ → Prop} {xs : List β} {ys : List γ} (h : Paired R xs ys) : xs.length = ys.length := h.length
theorem de_callK (G : KnK X.prog X.w X.K X.mg X.base k x ps ks g m) (ho : Ord g) (hr : Room k X.A) (hg : Gl X x) (ha : DK X kws mr) (hl : LenA mr ks.length) (hdb : (x == ("__debug__" : Str)) = false := by decide)
    (hlen : ∀ ws : List Wv, ws.length = ks.length → (g ws).length = ps.length)
    (hall : (backToKw pos (keywordEach kws X.env)).all (·.1.isSome) = true := by rfl) (hks : (backToKw pos (keywordEach kws X.env)).filterMap (·.1) = ks := by rfl)
    (hpl : ((backTo pos (starEach [] X.env)).any (·.1) || (backToKw pos (keywordEach kws X.env)).any (·.1.isNone)) = false := by rfl) :
    DE X (.Call (.Name x p) [] kws pos) (mCallK m g mr) := by
  obtain ⟨f, fd, hm, hk, hb, F⟩ := G.ex
  refine ⟨⟨fun pins s σ H Q I h => ?_⟩⟩
  refine wpAny_Call_Name_kw (ld_glob I hg hm ?_ hdb)
  obtain ⟨α, ξ, S, δ, w, S', rs, re, hm, q⟩ := h
  obtain ⟨⟨ws, S1⟩, e1, hm2⟩ := bind_some hm
  refine PySem.W.callWith_KW0 (h₀ := X.base) I.ok.mod.kin hk hall (thn (ha.run.run pos pins s σ H (fun vs H1 => ∃ α1, Ext α H α1 H1 ∧ RS X.K α1 ξ S1 H1 ∧ RWs X.K α1 ξ H1 vs ws) I (tDA_go rs re e1 fun α1 vs H1 x1 r1 q1 _ => ⟨α1, x1, r1, q1⟩)) fun us s1 ⟨vs, H1, I1, r, q1⟩ => ⟨I1.kIn, ?_⟩) hpl
  obtain ⟨α1, x1, r1, q1⟩ := q1
  have l1 : ws.length = ks.length := hl _ _ _ _ e1
  have l2 : vs.length = ws.length := Paired.length q1
  have l3 : us.length = vs.length := r.length.symm
  rw [hks]
  refine wpAny_call (codeAny_mono (F.run X.A X.stack s1 H1 ⟨[], ks.zip us⟩ (g us) (g vs) Q E0 hr I1.env0 (hb s1 us (by omega)) (ho.rel r) ?_) fun r s' hq => ?_)
  · refine ⟨?_, α1, ξ, S1, g ws, w, S', r1, ho.rel q1, hm2, q.ext x1⟩
    rw [paired_len (ho.rel q1)]
    exact hlen ws l1
  · cases r with
    | error e => exact pass0 pins σ H1 s1 e s' I1 hq
    | ok fl =>
      cases fl with
      | ret u => exact I1.after hq
      | next => exact False.elim hq
      | brk => exact False.elim hq
      | cont => exact False.elim hq
end
/-! ### defs that raise -/
abbrev FX := List Wv → Sto → Option (Option Wv × Sto)
abbrev MX := DEnv → Sto → Option (Option Wv × Sto)
abbrev MSX := DEnv → Sto → Option (Option Fl × Sto)
def spX (K : PySem.W.Frag) (C : Addr) (n : Nat) (g : FX) : Sp := fun vs H Q E => vs.length = n ∧ ∃ α ξ S ws o S', RS K α ξ S H ∧ RWs K α ξ H vs ws ∧ g ws S = some (o, S') ∧
  (∀ w, o = some w → Post K α ξ H S' w Q) ∧ (o = none → ∀ α' H', Ext α H α' H' → RS K α' ξ S' H' → E (.ref C) none H')
structure KnX (P : Program) (w : World) (K : PySem.W.Frag) (mg : Str → Option Value) (base : Heap) (C : Addr) (k : Nat) (x : Str) (ps ks : List Str) (g : {β : Type} → List β → List β) (m : FX) : Prop where
  ex : ∃ (f : Addr) (fd : FuncData), mg x = some (.ref f) ∧ PySem.W.keepIn K (.ref f) = true ∧ BindsKw K fd ps ks g ∧ FnOk P w K mg base (L2.CX P w) k f fd ps (spX K C ps.length m)
def tDX (K : PySem.W.Frag) (W : WX) (C : Addr) (m : MX) : TE := fun σ H Q => ∃ α ξ S δ o S', RS K α ξ S H ∧ RE K α ξ H σ δ ∧ m δ S = some (o, S') ∧
  (∀ w, o = some w → Post K α ξ H S' w Q) ∧ (o = none → ∀ α' H', Ext α H α' H' → RS K α' ξ S' H' → RE K α' ξ H' σ δ → W (.ref C) none σ H')
structure DX (X : Cx) (W : WX) (C : Addr) (e : Expr) (m : MX) : Prop where
  run : PE X e (tDX X.K W C m)
def tSX (K : PySem.W.Frag) (W : WX) (C : Addr) (m : MSX) : TS := fun D σ H => ∃ α ξ S δ o S', RS K α ξ S H ∧ RE K α ξ H σ δ ∧ m δ S = some (o, S') ∧
  (∀ fl, o = some fl → PostS K α ξ H S' fl D) ∧ (o = none → ∀ α' σ' H', Ext α H α' H' → RS K α' ξ S' H' → W (.ref C) none σ' H')
structure DXs (X : Cx) (W : WX) (C : Addr) (sts : List Stmt) (m : MSX) : Prop where
  run : PSs X sts (tSX X.K W C m)
def mCallX (f : FX) (g : {β : Type} → List β → List β) (a : MA) : MX := fun δ S => (a δ S).bind fun p => f (g p.1) p.2
def mIfX (c : MT) (a b : MX) : MX := fun δ S => (c δ S).bind fun p => if p.1 then a δ p.2 else b δ p.2
def mTailX (a : MS) : MSX := fun δ S => (a δ S).bind fun p => some (some p.1, p.2)
def mSeqX (a : MS) (b : MSX) : MSX := fun δ S => (a δ S).bind fun p => match p.1 with
  | .nx δ1 => b δ1 p.2
  | f => some (some f, p.2)
def mGuard (c : MT) (b : MS) : MSX := fun δ S => (c δ S).bind fun p => if p.1 then some (none, p.2) else (b δ p.2).bind fun q => some (some q.1, q.2)
section
variable {X : Cx} {W : WX} {C : Addr} {k : Nat} {x : Str} {ps ks : List Str} {g : {β : Type} → List β → List β} {m : FX} {p pos : Pos} {kws : List Keyword} {mr : MA} {a b c : Expr} {mx my : MX} {mt : MT}
theorem dx_call (tk : Takes X W) (G : KnX X.prog X.w X.K X.mg X.base C k x ps ks g m) (ho : Ord g) (hr : Room k X.A) (hg : Gl X x) (ha : DK X kws mr) (hl : LenA mr ks.length) (hdb : (x == ("__debug__" : Str)) = false := by decide)
    (hlen : ∀ ws : List Wv, ws.length = ks.length → (g ws).length = ps.length)
    (hall : (backToKw pos (keywordEach kws X.env)).all (·.1.isSome) = true := by rfl) (hks : (backToKw pos (keywordEach kws X.env)).filterMap (·.1) = ks := by rfl)
    (hpl : ((backTo pos (starEach [] X.env)).any (·.1) || (backToKw pos (keywordEach kws X.env)).any (·.1.isNone)) = false := by rfl) :
    DX X W C (.Call (.Name x p) [] kws pos) (mCallX m g mr) := by
  obtain ⟨f, fd, hm, hk, hb, F⟩ := G.ex
  refine ⟨⟨fun pins s σ H Q I h => ?_⟩⟩
  refine wpAny_Call_Name_kw (ld_glob I hg hm ?_ hdb)
  obtain ⟨α, ξ, S, δ, o, S', rs, re, hm, q, qx⟩ := h
  obtain ⟨⟨ws, S1⟩, e1, hm2⟩ := bind_some hm
  refine PySem.W.callWith_KW0 (h₀ := X.base) I.ok.mod.kin hk hall (thn (ha.run.run pos pins s σ H (fun vs H1 => ∃ α1, Ext α H α1 H1 ∧ RS X.K α1 ξ S1 H1 ∧ RWs X.K α1 ξ H1 vs ws) I (tDA_go rs re e1 fun α1 vs H1 x1 r1 q1 _ => ⟨α1, x1, r1, q1⟩)) fun us s1 ⟨vs, H1, I1, r, q1⟩ => ⟨I1.kIn, ?_⟩) hpl
  obtain ⟨α1, x1, r1, q1⟩ := q1
  have l1 : ws.length = ks.length := hl _ _ _ _ e1
  have l2 : vs.length = ws.length := Paired.length q1
  have l3 : us.length = vs.length := r.length.symm
  rw [hks]
  refine wpAny_call (codeAny_mono (F.run X.A X.stack s1 H1 ⟨[], ks.zip us⟩ (g us) (g vs) Q (WE W σ) hr I1.env0 (hb s1 us (by omega)) (ho.rel r) ?_) fun r s' hq => ?_)
  · refine ⟨?_, α1, ξ, S1, g ws, o, S', r1, ho.rel q1, hm2, fun w e => (q w e).ext x1, fun e α' H' xx rr => qx e α' H' (x1.trans xx) rr ((x1.trans xx).re rs re)⟩
    rw [paired_len (ho.rel q1)]
    exact hlen ws l1
  · cases r with
    | error e => exact passAt tk σ pins H1 s1 e s' I1 hq
    | ok fl =>
      cases fl with
      | ret u => exact I1.after hq
      | next => exact False.elim hq
      | brk => exact False.elim hq
      | cont => exact False.elim hq
theorem dx_if (hc : DT X c mt) (ha : DX X W C a mx) (hb : DX X W C b my) : DX X W C (.IfExp c a b pos) (mIfX mt mx my) := by
  refine ⟨peMono (pe_ifExp hc.run ha.run hb.run) fun σ H Q h => ?_⟩
  obtain ⟨α, ξ, S, δ, o, S', rs, re, hm, q, qx⟩ := h
  obtain ⟨⟨b1, S1⟩, e1, hm⟩ := bind_some hm
  refine tDT_go rs re e1 fun α1 H1 x1 r1 re1 => ?_
  cases b1 with
  | true =>
    rw [if_pos rfl] at hm ⊢
    exact ⟨α1, ξ, S1, δ, o, S', r1, re1, hm, fun w e => (q w e).ext x1, fun e α' H' xx rr => qx e α' H' (x1.trans xx) rr⟩
  | false =>
    rw [if_neg Bool.false_ne_true] at hm ⊢
    exact ⟨α1, ξ, S1, δ, o, S', r1, re1, hm, fun w e => (q w e).ext x1, fun e α' H' xx rr => qx e α' H' (x1.trans xx) rr⟩
variable {st : Stmt} {rest : List Stmt} {ms mb : MS} {mX : MSX}
theorem dxs_cons (h1 : DS X st ms) (h2 : DXs X W C rest mX) : DXs X W C (st :: rest) (mSeqX ms mX) := by
  refine ⟨pssMono (pss_cons h1.run h2.run) fun D σ H h => ?_⟩
  obtain ⟨α, ξ, S, δ, o, S', rs, re, hm, q, qx⟩ := h
  obtain ⟨⟨f1, S1⟩, e1, hm2⟩ := bind_some hm
  cases f1 with
  | nx δ1 => exact ⟨α, ξ, S, δ, .nx δ1, S1, rs, re, e1, fun α1 σ1 H1 x1 r1 re1 => ⟨α1, ξ, S1, δ1, o, S', r1, re1, hm2, fun fl e => (q fl e).ext x1, fun e α' σ' H' xx rr => qx e α' σ' H' (x1.trans xx) rr⟩⟩
  | rt w => cases hm2; exact ⟨α, ξ, S, δ, _, _, rs, re, e1, q _ rfl⟩
  | bk δ1 => cases hm2; exact ⟨α, ξ, S, δ, _, _, rs, re, e1, q _ rfl⟩
  | ct δ1 => cases hm2; exact ⟨α, ξ, S, δ, _, _, rs, re, e1, q _ rfl⟩
theorem dxs_guard {rst : Stmt} (hc : DT X c mt) (hr : PS X rst (fun _ σ H => W (.ref C) none σ H)) (h2 : DSs X rest mb) : DXs X W C (.If c [rst] [] pos :: rest) (mGuard mt mb) := by
  refine ⟨pssMono (pss_cons (ps_if hc.run (pss_one hr) pss_nil) h2.run) fun D σ H h => ?_⟩
  obtain ⟨α, ξ, S, δ, o, S', rs, re, hm, q, qx⟩ := h
  obtain ⟨⟨b1, S1⟩, e1, hm2⟩ := bind_some hm
  refine tDT_go rs re e1 fun α1 H1 x1 r1 re1 => ?_
  cases b1 with
  | true =>
    rw [if_pos rfl] at hm2 ⊢
    cases hm2
    exact qx rfl α1 σ H1 x1 r1
  | false =>
    rw [if_neg Bool.false_ne_true] at hm2 ⊢
    obtain ⟨⟨fl, S2⟩, e2, hm3⟩ := bind_some hm2
    cases hm3
    exact ⟨α1, ξ, S1, δ, fl, S2, r1, re1, e2, (q fl rfl).ext x1⟩
/-- X(), an own exception class -/
theorem pmk_own0 {bmB : List Value} {B newId initId : String} (F : ExcBaseFacts B newId initId bmB) (q : PySem.W.excIn X.K C bmB newId = true) (gC : X.mg x = some (.ref C)) (kC : PySem.W.keepIn X.K (.ref C) = true) (r : Raises X (.ref C)) (hg : Gl X x)
    (hdb : (x == ("__debug__" : Str)) = false := by decide) : PMk X (.Call (.Name x p) [] [] pos) (fun _ H Q => Q (.ref C) none H) := by
  intro pins s σ H Q I h
  refine wpAny_Call_Name_kw (ld_glob I hg gC ?_ hdb)
  refine PySem.W.callWith_K0 I.kIn kC ?_
  show wpAny _ _ (call (.ref C) []) _ _ _
  obtain ⟨bm, N, nm, qn, bs, hdct, sn, sub, ab, col, dd, k0, k1, k2, k3, k5, mN, hC, hN, hni, T⟩ := exc_obj I.kIn q
  refine wpAny_call_exc_subT F T hC hN hni (fun h' e hm => ?_) (by show 0 ≤ sizeLine; exact Nat.zero_le _)
  exact mk_of I hm r h (I.hok.gone hm.new)
end
/-- what a raising body gives -/
def semX (n : Nat) (m : MSX) : FX := fun ws S => (m (startD n ws) S).bind fun p => match p.1 with
  | none => some (none, p.2)
  | some (.rt w) => some (some w, p.2)
  | some (.nx _) => some (some (.d .none), p.2)
  | _ => none
section
variable {P : Program} {w : World} {K : PySem.W.Frag} {mg : Str → Option Value} {base : Heap}
theorem knx_of {x qual : Str} {params : Arguments} {body : List Stmt} {scope : Scope} {f C : Addr} {fd : FuncData} {N ps ks : List Str} {g : {β : Type} → List β → List β} {k : Nat} {m : MSX} (F : FunD K x qual params body scope [] [] f fd) (hmg : mg x = some (.ref f)) (S : FnScope N ps scope)
    (hb : BindsKw K fd ps ks g)
    (h : ∀ (cdv : Value) (A : Around) (outer : List Env) (s : Shared) (H : Hp) (E : XK), Room k (A.deeper (envOfC qual scope s.heap.objs.size f cdv)) → Takes (cxOf (L2.CX P w) P w K mg base N qual scope f cdv A outer s H E) (fun cls d _ H => E cls d H) →
      DXs (cxOf (L2.CX P w) P w K mg base N qual scope f cdv A outer s H E) (fun cls d _ H => E cls d H) C body m) :
    KnX P w K mg base C (k + 1) x ps ks g (semX N.length m) := by
  refine ⟨f, fd, hmg, F.kp, hb, F.ok S (fun vs H Q E q => q.1) fun cdv A outer s H vs Q E hr q => ?_⟩
  refine ⟨_, (h cdv A outer s H E hr (takes_of rfl rfl rfl rfl)).run, ?_⟩
  obtain ⟨hl, α, ξ, St, ws, o, S', rs, rv, e, p, px⟩ := q
  obtain ⟨⟨fl, S1⟩, e1, e⟩ := bind_some e
  refine ⟨α, ξ, St, startD N.length ws, fl, S1, rs, re_start N rv, e1, fun fl' e' => ?_, fun e' => ?_⟩
  · subst e'
    cases fl' with
    | rt w1 =>
      cases e
      exact fun α' v H' x r q => p w1 rfl α' v H' x r q
    | nx δ =>
      cases e
      exact fun α' σ' H' x r q => p _ rfl α' .non H' x r RD.non
    | bk δ => cases e
    | ct δ => cases e
  · subst e'
    cases e
    exact fun α' σ' H' x r => px rfl α' H' x r
theorem knk_of {x qual : Str} {params : Arguments} {body : List Stmt} {scope : Scope} {f : Addr} {fd : FuncData} {ps ks : List Str} {g : {β : Type} → List β → List β} {k : Nat} {m : FC} (F : FunD K x qual params body scope [] [] f fd) (hmg : mg x = some (.ref f)) (hb : BindsKw K fd ps ks g)
    (ok : FnOk P w K mg base CX0 k f fd ps (spD K ps.length m)) : KnK P w K mg base k x ps ks g m := ⟨f, fd, hmg, F.kp, hb, ok⟩
end
/-! ### try .. except CanNot as flaw: told = ['can not', isinstance(flaw, ValueError)] -/
def mTry (i j : Nat) (txt : Str) (a : MX) : MS := fun δ S => (a δ S).bind fun p => match p.1 with
  | some w => some (.nx (δ.set i (some w)), p.2)
  | none => if j < δ.length then some (.nx ((δ.set i (some (.d (.list [.str txt, .bool true])))).set j none), p.2) else none
section
variable {X : Cx} {C : Addr} {ix : Nat}
theorem ds_try {y n x : Str} {i j : Nat} {e : Expr} {txt : Str} {mx : MX} {py np py2 p1 p2 p3 p4 p5 p6 pos1 pos2 pos3 pos : Pos} {j2 : Nat} (hs : X.stack = X.env :: X.outer) (hf : X.env.frame = some X.env.locals) (hN : X.N.Nodup)
    (hi : X.N[i]? = some y) (hj : X.N[j]? = some n) (hij : i ≠ j) (hly : X.env.scope.names.lookup y = some .local) (hln : X.env.scope.names.lookup n = some .local)
    (gx : Gl X x) (gC : X.mg x = some (.ref C)) (hdx : (x == ("__debug__" : Str)) = false) (EC : ExcC X.K C) (hex : PySem.W.exmOne X.K (.ref C) (.ref C) = some true) (hkit : PySem.W.kitOne X.K (.ref C) (.type "ValueError") = some true)
    (gi : Gl X "isinstance") (mi : X.mg "isinstance" = none) (gv : Gl X "ValueError") (mv : X.mg "ValueError" = none) (bi : bootBuiltins "isinstance" = some (.builtin "isinstance")) (bv : bootBuiltins "ValueError" = some (.type "ValueError"))
    (hne : (n == ("__debug__" : Str)) = false) (hncd : (n == ("__classdict__" : Str)) = false)
    (tk : Takes X (fun _ _ _ _ => False))
    (he : ∀ (W : WX) (pn : List (Addr × Obj)) (xe : Value → Shared → Prop), Takes (X.tr pn xe) W → DX (X.tr pn xe) W C e mx)
    (hsw : swapsWith e (some (.Name y py)) pos1.line X.env = pure false := by rfl)
    (hsw2 : ∀ ee, swapsWith (.List ee p1) (some (.Name y py2)) pos2.line X.env = pure false := by intro _; rfl) :
    DS X (.Try [.Assign [.Name y py] e pos1] [.ExceptHandler (some (.Name x np)) (some n) [.Assign [.Name y py2] (.List [.Constant (.str txt) j2 p2, .Call (.Name "isinstance" p3) [.Name n p4, .Name "ValueError" p5] [] p6] p1) pos2] pos3] [] [] pos) (mTry i j txt mx) := by
  have hb : ∀ (W : WX) (pn : List (Addr × Obj)) (xe : Value → Shared → Prop), Takes (X.tr pn xe) W → PassesOwn (model X.prog X.w) X.A X.env xe → PSs (X.tr pn xe) [.Assign [.Name y py] e pos1] (tAsg (tDX X.K W C mx) (gName i)) := fun W pn xe tk _ =>
    pss_one (ps_set (X := X.tr pn xe) hN hi (.inl hly) (he W pn xe tk).run hsw (.inr hly))
  have hsu : ∀ (a : Addr) (oe : Obj) (cls : Value) (d : Option Addr) (pn : List (Addr × Obj)), Zc cls d oe → (∃ vs, oe.data = .fields vs) →
      PSs (X.suite a ((a, oe) :: pn)) [.Assign [.Name y py2] (.List [.Constant (.str txt) j2 p2, .Call (.Name "isinstance" p3) [.Name n p4, .Name "ValueError" p5] [] p6] p1) pos2]
        (fun D σ H => cls = .ref C ∧ d = none ∧ σ[j]? = some (some (.ref a)) ∧ ∀ p, H p = none → D.nx (σ.set i (some (.ref p))) (upd H p (.lst [.str txt, .bl true]))) := fun a oe cls d pn hz hfl => by
    refine ⟨fun pins s σ H D I h => ?_⟩
    obtain ⟨rfl, rfl, hσ, q⟩ := h
    have pc : PE (X.suite a ((a, oe) :: pn)) (.Call (.Name "isinstance" p3) [.Name n p4, .Name "ValueError" p5] [] p6) _ :=
      pe_callB (X := X.suite a ((a, oe) :: pn)) (call_isE EC hz hfl) gi mi bi (pa_cons (pe_var (X := X.suite a ((a, oe) :: pn)) hj (.inl hln) hne hncd) (pa_cons (pe_bltn (X := X.suite a ((a, oe) :: pn)) (v := .ty "ValueError") gv mv bv rfl (by decide) (by decide)) pa_nil))
    have ps : PSs (X.suite a ((a, oe) :: pn)) [.Assign [.Name y py2] (.List [.Constant (.str txt) j2 p2, .Call (.Name "isinstance" p3) [.Name n p4, .Name "ValueError" p5] [] p6] p1) pos2] _ :=
      pss_one (ps_set (X := X.suite a ((a, oe) :: pn)) hN hi (.inl hly) (pe_lst (pa_cons pe_str (pa_cons pc pa_nil))) (hsw2 _) (.inr hly))
    refine ps.run pins s σ H D I ?_
    refine ⟨.ref a, hσ, ?_⟩
    refine ⟨.ty "ValueError", .type "ValueError", true, rfl, fun u hu => hu, hkit, ?_⟩
    refine ⟨by show 2 ≤ sizeLine; rw [sizeLine_eq]; omega, fun p hp => ?_⟩
    exact q p hp
  refine ⟨psMono (ps_try_as hs hf hN hj hln ⟨gx, hdx, .inl gC⟩ tk hb hsu) fun D σ H h => ?_⟩
  obtain ⟨α, ξ, S, δ, fl, S', rs, re, hm, q⟩ := h
  obtain ⟨⟨o, S1⟩, e1, hm2⟩ := bind_some hm
  refine ⟨α, ξ, S, δ, o, S1, rs, re, e1, fun w ew => ?_, fun eo => ?_⟩
  · subst ew
    cases hm2
    exact fun α1 v1 H1 x1 r1 q1 => q α1 _ H1 x1 r1 ((x1.re rs re).set i q1)
  · subst eo
    simp only at hm2
    split at hm2
    rotate_left
    · cases hm2
    rename_i hjd
    cases hm2
    refine fun α1 H1 x1 r1 re1 => ⟨true, hex, fun _ a ha => ?_, fun z => by cases z⟩
    have hjl : j < σ.length := by rw [re1.1]; exact hjd
    refine ⟨rfl, rfl, List.getElem?_set_self hjl, fun p hp => ?_⟩
    have x2 : Ext α1 H1 α1 (upd H1 p (.lst [.str txt, .bl true])) := ext_new hp
    have e3 : (((σ.set j (some (V.ref a))).set i (some (V.ref p))).set j none) = (σ.set i (some (V.ref p))).set j none := by
      rw [List.set_comm _ _ (Ne.symm hij), List.set_set]
    show D.nx (((σ.set j (some (V.ref a))).set i (some (V.ref p))).set j none) _
    rw [e3]
    refine q α1 _ _ (x1.trans x2) (r1.new hp) ?_
    exact RE.wipe ((x2.re r1 re1).set i (w := .d (.list [.str txt, .bool true])) (RD.lst upd_same (r1.nnone hp) (.cons (.str _) (.cons (.bl _) .nil)))) [j]
end
end K15
set_option Elab.async false
set_option linter.all false
set_option maxRecDepth 100000
set_option maxHeartbeats 4000000
set_option autoImplicit false
namespace K15
open PySem PySem.Spec PyProof.Rows L2
/-! ### a list or a tuple, walked -/
def iSq (K : PySem.W.Frag) (tl : TE) : TI := fun σ H R => tl σ H fun x H1 => (∃ a, x = .ref a ∧ (∃ xs, SqL K H1 a xs) ∧ R (Itl K a) H1) ∨ (∃ a, x = .ref a ∧ (∃ xs, SqT K H1 a xs) ∧ R (Itt K a) H1)
theorem pi_sq {X : Cx} {tg l : Expr} {tl : TE} (hl : PE X l tl) : PI X tg l (iSq X.K tl) := by
  refine ⟨fun pins s σ H R I h => ?_⟩
  refine thn (hl.run pins s σ H _ I h) fun v s1 ⟨x, H1, I1, r1, q1⟩ => ?_
  rcases q1 with ⟨a, e, ⟨xs, hq⟩, q⟩ | ⟨a, e, ⟨xs, hq⟩, q⟩
  · subst e
    cases r1
    obtain ⟨its, rv, p, hz⟩ := I1.list hq
    refine wpAny_pyIter_list p.isList ?_
    refine ⟨s1.heap.objs.size, [s1.heap.objs.size], _, _, H1, rfl, I1.kept (t' := s1.toks) fun b o e => Heap.get?_push_of_some _ e, turn_list a _, ⟨_, Heap.get?_push_size _ rfl, rfl, rfl⟩, fun b hb => ?_, q⟩
    have e : b = s1.heap.objs.size := by simpa using hb
    subst e
    exact I1.fpOk (Nat.le_refl _) (I1.hok.fresh (Nat.le_refl _))
  · subst e
    cases r1
    obtain ⟨its, rv, p, hz⟩ := I1.tuple hq
    refine wpAny_pyIter_tuple (show s1.heap.IsTuple a its.toArray from p) ?_
    refine ⟨s1.heap.objs.size, [s1.heap.objs.size], _, _, H1, rfl, I1.kept (t' := s1.toks) fun b o e => Heap.get?_push_of_some _ e, turn_tuple a _, ⟨_, Heap.get?_push_size _ rfl, rfl, rfl⟩, fun b hb => ?_, q⟩
    have e : b = s1.heap.objs.size := by simpa using hb
    subst e
    exact I1.fpOk (Nat.le_refl _) (I1.hok.fresh (Nat.le_refl _))
def gS (w : Wv) : Gt := fun S i => (rdSq S w).map fun p => p.2[i]?
def mIter (a : ME) : MI := fun δ S => (a δ S).bind fun p => (rdSq p.2 p.1).map fun ws => ((ws.2.length, gS p.1), p.2)
theorem di_sq {X : Cx} {tg a : Expr} {ma : ME} (ha : DE X a ma) : DI X tg a (mIter ma) := by
  refine ⟨piMono (pi_sq ha.run) fun σ H R h => ?_⟩
  obtain ⟨α, ξ, S, δ, s, S', rs, re, hm, q⟩ := h
  obtain ⟨⟨w1, S1⟩, e1, hm2⟩ := bind_some hm
  refine tD_go rs re e1 fun α1 v1 H1 x1 r1 q1 re1 => ?_
  cases e : rdSq S1 w1 with
  | none => simp only [e] at hm2; cases hm2
  | some p =>
    obtain ⟨t, ws⟩ := p
    simp only [e] at hm2
    cases hm2
    obtain ⟨c, rfl, hvs, k⟩ := sq_src r1 q1 e
    have src : ∀ J : It, (∀ i H2 vs v, SqB X.K t H2 c vs → vs[i]? = some v → J.go i H2 ∧ ∀ u H', J.yld i H2 u H' → H' = H2 ∧ u = v) → (∀ i H2 vs, SqB X.K t H2 c vs → vs.length ≤ i → J.stop i H2) → SrcOk X.K α1 ξ H1 J (gS w1) := fun J j1 j2 α2 ξ2 S2 H2 x2 hx r2 i => by
      obtain ⟨vs, us, hs, rv, eu⟩ := k α2 ξ2 S2 H2 x2 hx r2
      have hlen := Paired.length rv
      have key : gS w1 S2 i = some us[i]? := by unfold gS; rw [eu]; rfl
      refine ⟨fun w hw => ?_, fun hw => ?_⟩
      · have hw2 : us[i]? = some w := Option.some.inj (key.symm.trans hw)
        obtain ⟨u, hu, ru⟩ := rws_get rv hw2
        obtain ⟨g1, g2⟩ := j1 i H2 vs u hs hu
        refine ⟨g1, fun v H' y => ?_⟩
        obtain ⟨rfl, rfl⟩ := g2 v H' y
        exact ⟨Ext.refl, r2, ru⟩
      · have hw2 : us[i]? = none := Option.some.inj (key.symm.trans hw)
        exact j2 i H2 vs hs (by rw [hlen]; exact List.getElem?_eq_none_iff.mp hw2)
    cases t with
    | false => exact .inl ⟨c, rfl, hvs, q α1 H1 _ x1 r1 (src _ (fun i H2 vs v hs hv => ⟨⟨vs, v, hs, hv⟩, fun u H' y => ⟨y.1, Option.some.inj ((y.2 vs hs).symm.trans hv)⟩⟩) fun i H2 vs hs hl => ⟨vs, hs, hl⟩)⟩
    | true => exact .inr ⟨c, rfl, hvs, q α1 H1 _ x1 r1 (src _ (fun i H2 vs v hs hv => ⟨⟨vs, v, hs, hv⟩, fun u H' y => ⟨y.1, Option.some.inj ((y.2 vs hs).symm.trans hv)⟩⟩) fun i H2 vs hs hl => ⟨vs, hs, hl⟩)⟩
/-- a text, walked -/
def gC (z : Str) : Gt := fun _ i => some ((z.cps.toList[i]?).map fun c => .d (.str ⟨#[c]⟩))
def mIterC (a : ME) : MI := fun δ S => (a δ S).bind fun p => match p.1 with
  | .d (.str z) => some ((z.cps.toList.length, gC z), p.2)
  | _ => none
theorem di_str {X : Cx} {tg a : Expr} {ma : ME} (ha : DE X a ma) : DI X tg a (mIterC ma) := by
  refine ⟨piMono (pi_str ha.run) fun σ H R h => ?_⟩
  obtain ⟨α, ξ, S, δ, s, S', rs, re, hm, q⟩ := h
  obtain ⟨⟨w1, S1⟩, e1, hm2⟩ := bind_some hm
  refine tD_go rs re e1 fun α1 v1 H1 x1 r1 q1 re1 => ?_
  simp only at hm2
  split at hm2
  · rename_i z
    cases hm2
    cases q1
    refine ⟨z, rfl, q α1 H1 _ x1 r1 fun α2 ξ2 S2 H2 x2 hx r2 i => ?_⟩
    refine ⟨fun w hw => ?_, fun hw => ?_⟩
    · have hw : (z.cps.toList[i]?).map (fun c => Wv.d (.str ⟨#[c]⟩)) = some w := Option.some.inj hw
      cases e : z.cps.toList[i]? with
      | none => rw [e] at hw; cases hw
      | some c =>
        rw [e] at hw
        cases hw
        have e2 : z.cps[i]? = some c := by rw [← Array.getElem?_toList]; exact e
        have hi : i < z.cps.size := (Array.getElem?_eq_some_iff.mp e2).1
        refine ⟨hi, fun v H' y => ?_⟩
        obtain ⟨rfl, c', hc', rfl⟩ := y
        rw [e2] at hc'
        cases hc'
        exact ⟨Ext.refl, r2, RD.str _⟩
    · have hw : (z.cps.toList[i]?).map (fun c => Wv.d (.str ⟨#[c]⟩)) = none := Option.some.inj hw
      cases e : z.cps.toList[i]? with
      | none =>
        have := List.getElem?_eq_none_iff.mp e
        exact (by simpa using this : z.cps.size ≤ i)
      | some c => rw [e] at hw; cases hw
  · cases hm2
/-- a chain as a test -/
theorem dt_chain {X : Cx} {a b c : Expr} {ma mb mc : ME} {pos : Pos} {op op' : CmpOp} {r r' : R2} {f g : F2} (ho : OpR X (compareOp op) r) (hf : Op2 X.K r f) (ho' : OpR X (compareOp op') r') (hg : Op2 X.K r' g) (ha : DE X a ma) (hb : DE X b mb) (hc : DE X c mc)
    (hm : lastMarks [op, op'] [b, c] = false := by with_unfolding_all rfl) : DT X (.Compare a [op, op'] [b, c] pos) (mTst (mChain f g ma mb mc)) := by
  refine ⟨ptMono (pt_chain ho ho' ha.run hb.run hc.run hm) fun σ H Q h => ?_⟩
  obtain ⟨α, ξ, S, δ, b0, S', rs, re, hm, q⟩ := h
  obtain ⟨⟨w1, S1⟩, e1, hm⟩ := bind_some (tst_some hm)
  obtain ⟨⟨w2, S2⟩, e2, hm⟩ := bind_some hm
  obtain ⟨⟨w3, S3⟩, e3, hm⟩ := bind_some hm
  refine tD_go rs re e1 fun α1 v1 H1 x1 r1 q1 re1 => ?_
  refine tD_go r1 re1 e2 fun α2 v2 H2 x2 r2 q2 re2 => ?_
  refine hf α2 ξ S2 H2 v1 v2 w1 w2 w3 S3 _ r2 (x2.rw r1 q1) q2 e3 fun α3 v3 H3 x3 r3 q3 => ?_
  simp only at hm
  split at hm
  · obtain ⟨⟨w4, S4⟩, e4, hm⟩ := bind_some hm
    refine ⟨true, bool_w q3, ?_⟩
    rw [if_pos rfl]
    refine tD_go r3 (x3.re r2 re2) e4 fun α4 v4 H4 x4 r4 q4 _ => ?_
    exact hg α4 ξ S4 H4 v2 v4 w2 w4 _ S' _ r4 ((x3.trans x4).rw r2 q2) q4 hm fun α5 v5 H5 x5 r5 q5 => ⟨b0, bool_w q5, q α5 H5 ((((x1.trans x2).trans x3).trans x4).trans x5) r5⟩
  · refine ⟨false, bool_w q3, ?_⟩
    rw [if_neg Bool.false_ne_true]
    cases hm
    exact ⟨false, rfl, q α3 H3 ((x1.trans x2).trans x3) r3⟩
  · cases hm
theorem dss_never {X : Cx} {sts : List Stmt} : DSs X sts mNever := ⟨⟨fun pins s σ H D I h => by
  obtain ⟨α, ξ, S, δ, fl, S', rs, re, hm, q⟩ := h
  cases hm⟩⟩
/-! ### garbage left out -/
def okR (n : Nat) : Wv → Bool
  | .ref k => decide (k < n)
  | _ => true
/-- what a def leaves, its own lists left out -/
def trimG (g : FC) : FC := fun ws S => (g ws S).bind fun p => if S.length ≤ p.2.length ∧ ((p.2.take S.length).all fun us => us.all (okR S.length)) = true then (match p.1 with
  | .d x => some (.d x, p.2.take S.length)
  | .ref l => if S.length ≤ l then (p.2[l]?).bind fun us => (toDs us).map fun ds => (.d (.list ds), p.2.take S.length) else none
  | _ => none) else none
section
variable {P : Program} {w : World} {K : PySem.W.Frag} {mg : Str → Option Value} {base : Heap}
theorem Kn.trimG {k : Nat} {x : Str} {ps : List Str} {g : FC} (h : Kn P w K mg base k x ps g) : Kn P w K mg base k x ps (K15.trimG g) := by
  refine h.trim fun ws S w S1 ha hl e => ?_
  obtain ⟨⟨w0, S2⟩, e0, e⟩ := bind_some e
  split at e
  rotate_left
  · cases e
  rename_i hc
  obtain ⟨c1, c2⟩ := hc
  have all : ∀ S1, S1 = S2.take S.length → S1.length = S.length ∧ AllC S1.length S1 ∧ S2 = S1 ++ S2.drop S.length := fun S1 e1 => by
    have l1 : S1.length = S.length := by rw [e1, List.length_take]; simp only at c1; omega
    refine ⟨l1, fun us hu k hk => ?_, by rw [e1, List.take_append_drop]⟩
    rw [List.all_eq_true] at c2
    have c3 := c2 us (by rw [← e1]; exact hu)
    rw [List.all_eq_true] at c3
    have c4 := c3 _ hk
    rw [l1]
    exact of_decide_eq_true c4
  simp only at e
  split at e
  · rename_i x
    cases e
    obtain ⟨l1, l2, l3⟩ := all _ rfl
    exact ⟨l1, l2, S2.drop S.length, .d x, by rw [← l3]; exact e0, .inl ⟨rfl, x, rfl⟩⟩
  · rename_i l
    split at e
    · rename_i hle
      obtain ⟨us, e2, e⟩ := bind_some e
      cases e3 : toDs us with
      | none => rw [e3] at e; cases e
      | some ds =>
        rw [e3] at e
        cases e
        obtain ⟨l1, l2, l3⟩ := all _ rfl
        refine ⟨l1, l2, S2.drop S.length, .ref l, by rw [← l3]; exact e0, .inr ⟨l, ds, rfl, by rw [l1]; exact hle, ?_, rfl⟩⟩
        rw [← l3, ← toDs_eq e3]
        exact e2
    · cases e
  · cases e
theorem kn_ok {x qual : Str} {params : Arguments} {body : List Stmt} {scope : Scope} {f : Addr} {fd : FuncData} {N ps : List Str} {k : Nat} {m : MS} (F : FunD K x qual params body scope [] [] f fd) (S : FnScope N ps scope)
    (h : ∀ (cdv : Value) (A : Around) (outer : List Env) (s : Shared) (H : Hp) (E : XK), Room k (A.deeper (envOfC qual scope s.heap.objs.size f cdv)) → DSs (cxOf CX0 P w K mg base N qual scope f cdv A outer s H E).nox body m) :
    FnOk P w K mg base CX0 (k + 1) f fd ps (spD K ps.length (sem N.length m)) := by
  refine F.ok S (fun vs H Q E q => q.1) fun cdv A outer s H vs Q E hr q => ?_
  refine ⟨_, PSs.nox (h cdv A outer s H E hr).run, ?_⟩
  obtain ⟨hl, α, ξ, St, ws, w', S', rs, rv, e, p⟩ := q
  obtain ⟨⟨fl, S1⟩, e1, e⟩ := bind_some e
  refine ⟨α, ξ, St, startD N.length ws, fl, S1, rs, re_start N rv, e1, ?_⟩
  cases fl with
  | rt w1 =>
    cases e
    exact fun α' v H' x r q => p α' v H' x r q
  | nx δ =>
    cases e
    exact fun α' σ' H' x r q => p α' .non H' x r RD.non
  | bk δ => cases e
  | ct δ => cases e
theorem sem_never (n : Nat) : sem n mNever = fun _ _ => none := rfl
end
end K15
set_option Elab.async false
set_option linter.all false
set_option maxRecDepth 100000
set_option maxHeartbeats 4000000
set_option autoImplicit false
namespace K15
open PySem PySem.Spec PyProof.Rows L2
def m_is_number : MS := (mRet (mAnd (mCall cIsi (mCons (mVar 0) (mCons (mTy .int) mNil))) (mNot (mCall cIsi (mCons (mVar 0) (mCons (mTy .bool) mNil))))))
def g_is_number : FC := sem 1 m_is_number
def m_is_from : MS := (mRet (mAnd (mCall g_is_number (mCons (mVar 0) mNil)) (mBin fGe (mVar 0) (mVar 1))))
def g_is_from : FC := sem 2 m_is_from
def m_is_within : MS := (mRet (mAnd (mCall g_is_number (mCons (mVar 0) mNil)) (mChain fLe fLe (mVar 1) (mVar 0) (mVar 2))))
def g_is_within : FC := sem 3 m_is_within
def m_is_long : MS := (mRet (mAnd (mCall cIsi (mCons (mVar 0) (mCons (mTy .tuple) mNil))) (mBin fEq (mCall cLen (mCons (mVar 0) mNil)) (mVar 1))))
def g_is_long : FC := sem 2 m_is_long
def m_tupled (g : FC) : MS := (mRet (mIf (mTst (mCall cIsi (mCons (mVar 0) (mCons (mTupTy (mCons (mTy .list) (mCons (mTy .tuple) mNil))) mNil)))) (mCall cTuple (mCons (mImm (mComp (mIter (mVar 0)) (nName 1) mtYes (mCall g (mCons (mVar 1) mNil)) [1])) mNil)) (mVar 0)))
def gR_tupled : Nat → FC
  | 0 => fun _ _ => none
  | d + 1 => sem 2 (m_tupled (gR_tupled d))
def g_tupled : FC := gR_tupled 12
def m_is_word : MS := (mRet (mAnd (mCall cIsi (mCons (mVar 0) (mCons (mTy .str) mNil))) (mAnd (mChain fLe fLe (mC (.int 1)) (mCall cLen (mCons (mVar 0) mNil)) (mC (.int 12))) (mCall cAll (mCons (mImm (mComp (mIterC (mVar 0)) (nName 1) mtYes (mBin (fInB false) (mVar 1) (mC (.str "abcdefghijklmnopqrstuvwxyz0123456789"))) [1])) mNil)))))
def g_is_word : FC := sem 2 m_is_word
def m_is_key : MS := (mRet (mOr (mCall g_is_word (mCons (mVar 0) mNil)) (mAnd (mCall cIsi (mCons (mVar 0) (mCons (mTy .str) mNil))) (mAnd (mBin fEq (mSl (mVar 0) mNo (mPart (mC (.int 1)))) (mC (.str "@"))) (mCall g_is_word (mCons (mSl (mVar 0) (mPart (mC (.int 1))) mNo) mNil))))))
def g_is_key : FC := sem 1 m_is_key
def m_is_single : MS := (mSeq (mIfS (mtOr (mtNot (mTst (mCall cIsi (mCons (mVar 0) (mCons (mTy .tuple) mNil))))) (mtOr (mTst (mBin fLt (mCall cLen (mCons (mVar 0) mNil)) (mC (.int 2)))) (mtOr (mtNot (mTst (mCall cIsi (mCons (mBin fIx (mVar 0) (mC (.int 0))) (mCons (mTy .str) mNil))))) (mtNot (mTst (mCall g_is_key (mCons (mBin fIx (mVar 0) (mC (.int 1))) mNil))))))) (mRet (mC (.bool false))) mNext) (mRet (mOr (mAnd (mBin fEq (mBin fIx (mVar 0) (mC (.int 0))) (mC (.str "drop"))) (mBin fEq (mCall cLen (mCons (mVar 0) mNil)) (mC (.int 2)))) (mAnd (mBin fEq (mBin fIx (mVar 0) (mC (.int 0))) (mC (.str "put"))) (mAnd (mBin fEq (mCall cLen (mCons (mVar 0) mNil)) (mC (.int 3))) (mCall g_is_word (mCons (mBin fIx (mVar 0) (mC (.int 2))) mNil)))))))
def g_is_single : FC := sem 1 m_is_single
def m_is_record : MS := (mSeq (mIfS (mtOr (mtNot (mTst (mCall cIsi (mCons (mVar 0) (mCons (mTy .tuple) mNil))))) (mtOr (mTst (mBin fEq (mCall cLen (mCons (mVar 0) mNil)) (mC (.int 0)))) (mtNot (mTst (mCall cIsi (mCons (mBin fIx (mVar 0) (mC (.int 0))) (mCons (mTy .str) mNil))))))) (mRet (mC (.bool false))) mNext) (mSeq (mIfS (mTst (mBin fEq (mBin fIx (mVar 0) (mC (.int 0))) (mC (.str "blank")))) (mRet (mBin fEq (mCall cLen (mCons (mVar 0) mNil)) (mC (.int 1)))) mNext) (mRet (mAnd (mBin fGt (mCall cLen (mCons (mVar 0) mNil)) (mC (.int 2))) (mAnd (mCall g_is_single (mCons (mSl (mVar 0) mNo (mPart (mNeg (mC (.int 2))))) mNil)) (mAnd (mCall g_is_from (mCons (mBin fIx (mVar 0) (mNeg (mC (.int 2)))) (mCons (mC (.int 0)) mNil))) (mCall g_is_from (mCons (mBin fIx (mVar 0) (mNeg (mC (.int 1)))) (mCons (mC (.int 0)) mNil)))))))))
def g_is_record : FC := sem 1 m_is_record
def m_is_shape : MS := (mSeq (mIfS (mtOr (mtNot (mTst (mCall g_is_long (mCons (mVar 0) (mCons (mC (.int 3)) mNil))))) (mtOr (mtNot (mTst (mCall g_is_from (mCons (mBin fIx (mVar 0) (mC (.int 0))) (mCons (mC (.int 2)) mNil))))) (mtNot (mTst (mCall g_is_within (mCons (mBin fIx (mVar 0) (mC (.int 1))) (mCons (mC (.int 1)) (mCons (mBin fSub (mBin fIx (mVar 0) (mC (.int 0))) (mC (.int 1))) mNil)))))))) (mRet (mC (.bool false))) mNext) (mRet (mCall g_is_from (mCons (mBin fIx (mVar 0) (mC (.int 2))) (mCons (mC (.int 1)) mNil)))))
def g_is_shape : FC := sem 1 m_is_shape
def m_sure_shape : MS := (mSeq (mSet 1 (mCall g_tupled (mCons (mVar 0) mNil))) (mSeq (mIfS (mtNot (mTst (mCall g_is_shape (mCons (mVar 1) mNil)))) mNever mNext) (mRet (mVar 1))))
def g_sure_shape : FC := sem 2 m_sure_shape
def m_mark_in : MS := (mRet (mBin fMod (mBin fDiv (mVar 1) (mBin fIx (mVar 0) (mC (.int 0)))) (mBin fIx (mVar 0) (mC (.int 2)))))
def g_mark_in : FC := sem 2 m_mark_in
def m_place_in : MS := (mRet (mBin fMod (mVar 1) (mBin fMulA (mBin fIx (mVar 0) (mC (.int 0))) (mBin fIx (mVar 0) (mC (.int 2))))))
def g_place_in : FC := sem 2 m_place_in
def m_is_told_cell : MS := (mRet (mOr (mBin fEq (mVar 0) (mC (.tuple [.str "torn"]))) (mAnd (mCall g_is_long (mCons (mVar 0) (mCons (mC (.int 2)) mNil))) (mAnd (mCall g_is_from (mCons (mBin fIx (mVar 0) (mC (.int 0))) (mCons (mC (.int 0)) mNil))) (mCall g_is_record (mCons (mBin fIx (mVar 0) (mC (.int 1))) mNil))))))
def g_is_told_cell : FC := sem 1 m_is_told_cell
def m_is_cell_in : MS := (mRet (mAnd (mCall g_is_told_cell (mCons (mVar 1) mNil)) (mOr (mBin fEq (mVar 1) (mC (.tuple [.str "torn"]))) (mBin fLt (mBin fIx (mVar 1) (mC (.int 0))) (mBin fIx (mVar 0) (mC (.int 2)))))))
def g_is_cell_in : FC := sem 2 m_is_cell_in
def m_is_picture_in : MS := (mRet (mAnd (mCall g_is_long (mCons (mVar 1) (mCons (mBin fIx (mVar 0) (mC (.int 0))) mNil))) (mCall cAll (mCons (mImm (mComp (mIter (mVar 1)) (nName 2) mtYes (mCall g_is_cell_in (mCons (mVar 0) (mCons (mVar 2) mNil))) [2])) mNil))))
def g_is_picture_in : FC := sem 3 m_is_picture_in
def m_sure_picture : MS := (mSeq (mSet 2 (mCall g_tupled (mCons (mVar 1) mNil))) (mSeq (mIfS (mtNot (mTst (mCall g_is_picture_in (mCons (mVar 0) (mCons (mVar 2) mNil))))) mNever mNext) (mRet (mVar 2))))
def g_sure_picture : FC := sem 3 m_sure_picture
def m_are_fates : MS := (mSeq (mIfS (mtNot (mTst (mCall g_is_long (mCons (mVar 1) (mCons (mVar 0) mNil))))) (mRet (mC (.bool false))) mNext) (mRet (mCall cAll (mCons (mImm (mComp (mIter (mVar 1)) (nName 2) mtYes (mAnd (mCall cIsi (mCons (mVar 2) (mCons (mTy .str) mNil))) (mBin (fInB false) (mVar 2) (mTup (mCons (mC (.str "old")) (mCons (mC (.str "new")) (mCons (mBin fIx (mC (.tuple [.str "torn"])) (mC (.int 0))) mNil)))))) [2])) mNil))))
def g_are_fates : FC := sem 3 m_are_fates
def m_fallen : MS := (mSeq (mSet 3 (mMut (mCallF cList (mCons (mVar 0) mNil)))) (mSeq (mFor (mZip (mVar 1) (mVar 2)) (nTup (nCons (nTup (nCons (nName 4) (nCons (nName 5) nNil))) (nCons (nName 6) nNil))) (mIfS (mTst (mBin fNe (mVar 6) (mC (.str "old")))) (mAsgG (gSubD (mVar 3) (mVar 4)) (mIf (mTst (mBin fEq (mVar 6) (mC (.str "new")))) (mVar 5) (mC (.tuple [.str "torn"])))) mNext)) (mRet (mCall cTuple (mCons (mVar 3) mNil)))))
def g_fallen : FC := trimG (sem 7 m_fallen)
def m_view_in : MS := (mRet (mCall g_fallen (mCons (mBin fIx (mVar 0) (mC (.int 1))) (mCons (mBin fIx (mVar 0) (mC (.int 2))) (mCons (mImm (mBinF fRep (mImm (mLst (mCons (mC (.str "new")) mNil))) (mCall cLen (mCons (mBin fIx (mVar 0) (mC (.int 2))) mNil)))) mNil)))))
def g_view_in : FC := sem 1 m_view_in
def m_sure_both : MS := (mSeq (mSet 2 (mCall g_sure_shape (mCons (mVar 0) mNil))) (mRet (mTup (mCons (mVar 2) (mCons (mCall g_sure_picture (mCons (mVar 2) (mCons (mVar 1) mNil))) mNil)))))
def g_sure_both : FC := sem 3 m_sure_both
def m_sure_place : MS := (mSeq (mIfS (mtNot (mTst (mCall g_is_within (mCons (mVar 1) (mCons (mC (.int 0)) (mCons (mBin fSub (mBin fMulA (mBin fIx (mVar 0) (mC (.int 0))) (mBin fIx (mVar 0) (mC (.int 2)))) (mC (.int 1))) mNil)))))) mNever mNext) (mRet (mVar 1)))
def g_sure_place : FC := sem 2 m_sure_place
def m_shows_in : MS := (mSeq (mSet 3 (mBin fIx (mVar 1) (mBin fMod (mVar 2) (mBin fIx (mVar 0) (mC (.int 0)))))) (mRet (mAnd (mBin fNe (mVar 3) (mC (.tuple [.str "torn"]))) (mBin fEq (mBin fIx (mVar 3) (mC (.int 0))) (mCall g_mark_in (mCons (mVar 0) (mCons (mVar 2) mNil)))))))
def g_shows_in : FC := sem 4 m_shows_in
def m_run_in : MS := (mSeq (mSet 3 (mC (.int 0))) (mSeq (whileG (mtAnd (mTst (mBin fLt (mVar 3) (mBin fIx (mVar 0) (mC (.int 0))))) (mTst (mCall g_shows_in (mCons (mVar 0) (mCons (mVar 1) (mCons (mBin fSub (mBin fSub (mVar 2) (mVar 3)) (mC (.int 1))) mNil)))))) (mSet 3 (mBin fAdd (mVar 3) (mC (.int 1)))) 20) (mRet (mVar 3))))
def g_run_in : FC := sem 4 m_run_in
def m_places_in : MS := (mSeq (mPar 2 3 (mCons (mMut (mLst mNil)) (mCons (mCall g_run_in (mCons (mVar 0) (mCons (mVar 1) (mCons (mC (.int 0)) mNil)))) mNil))) (mSeq (mFor (mRange1 (mBin fMulA (mBin fIx (mVar 0) (mC (.int 0))) (mBin fIx (mVar 0) (mC (.int 2))))) (nName 4) (mSeq (mIfS (mTst (mBin fGe (mVar 3) (mBin fSub (mBin fIx (mVar 0) (mC (.int 0))) (mBin fIx (mVar 0) (mC (.int 1)))))) (mDrop (mAppend (mVar 2) (mVar 4))) mNext) (mSet 3 (mIf (mTst (mCall g_shows_in (mCons (mVar 0) (mCons (mVar 1) (mCons (mVar 4) mNil))))) (mBin fAdd (mVar 3) (mC (.int 1))) (mC (.int 0)))))) (mRet (mVar 2))))
def g_places_in : FC := trimG (sem 5 m_places_in)
def m_gaps_in : MS := (mSeq (mSet 2 (mCall g_places_in (mCons (mVar 0) (mCons (mVar 1) mNil)))) (mSeq (mSet 3 (mImm (mBinF fCat (mSl (mVar 2) (mPart (mC (.int 1))) mNo) (mImm (mComp (mIter (mSl (mVar 2) mNo (mPart (mC (.int 1))))) (nName 4) mtYes (mBin fAdd (mVar 4) (mBin fMulA (mBin fIx (mVar 0) (mC (.int 0))) (mBin fIx (mVar 0) (mC (.int 2))))) [4]))))) (mRet (mImm (mComp (mZip (mVar 2) (mVar 3)) (nTup (nCons (nName 4) (nCons (nName 5) nNil))) mtYes (mTup (mCons (mVar 4) (mCons (mBin fSub (mVar 5) (mVar 4)) mNil))) [4, 5])))))
def g_gaps_in : FC := sem 6 m_gaps_in
def m_far_in : MS := (mRet (mImm (mComp (mIter (mCall g_gaps_in (mCons (mVar 0) (mCons (mVar 1) mNil)))) (nTup (nCons (nName 2) (nCons (nName 3) nNil))) (mTst (mBin fGt (mVar 3) (mBin fIx (mVar 0) (mC (.int 1))))) (mVar 2) [2, 3])))
def g_far_in : FC := sem 4 m_far_in
def m_answer_in : MS := (mSeq (mSet 2 (mCall g_far_in (mCons (mVar 0) (mCons (mVar 1) mNil)))) (mRet (mIf (mTst (mBin fEq (mCall cLen (mCons (mVar 2) mNil)) (mC (.int 1)))) (mBin fIx (mVar 2) (mC (.int 0))) (mC .none))))
def g_answer_in : FC := sem 3 m_answer_in
def m_synced_in : MS := (mSeq (mAsgN (nTup (nCons (nName 1) (nCons (nName 2) nNil))) (mVar 0)) (mRet (mTup (mCons (mTup (mCons (mBin fIx (mVar 1) (mC (.int 0))) (mCons (mCall g_view_in (mCons (mVar 1) mNil)) (mCons (mTup mNil) mNil)))) (mCons (mVar 2) mNil)))))
def g_synced_in : FC := sem 3 m_synced_in
def m_logged_in : MS := (mSeq (mAsgN (nTup (nCons (nTup (nCons (nName 2) (nCons (nName 3) (nCons (nName 4) nNil)))) (nCons (nName 5) nNil))) (mIf (mTst (mBin fEq (mCall cLen (mCons (mBin fIx (mBin fIx (mVar 0) (mC (.int 0))) (mC (.int 2))) mNil)) (mBin fIx (mBin fIx (mBin fIx (mVar 0) (mC (.int 0))) (mC (.int 0))) (mC (.int 1))))) (mCall g_synced_in (mCons (mVar 0) mNil)) (mVar 0))) (mSeq (mSet 6 (mTup (mCons (mCall g_mark_in (mCons (mVar 2) (mCons (mVar 5) mNil))) (mCons (mVar 1) mNil)))) (mRet (mTup (mCons (mTup (mCons (mVar 2) (mCons (mVar 3) (mCons (mTup (mStar (mVar 4) (mCons (mTup (mCons (mBin fMod (mVar 5) (mBin fIx (mVar 2) (mC (.int 0)))) (mCons (mVar 6) mNil))) mNil))) mNil)))) (mCons (mCall g_place_in (mCons (mVar 2) (mCons (mBin fAdd (mVar 5) (mC (.int 1))) mNil))) mNil))))))
def g_logged_in : FC := sem 7 m_logged_in
def m_stood_in : MS := (mRet (mCall g_place_in (mCons (mBin fIx (mBin fIx (mVar 0) (mC (.int 0))) (mC (.int 0))) (mCons (mBin fSub (mBin fIx (mVar 0) (mC (.int 1))) (mCall cLen (mCons (mBin fIx (mBin fIx (mVar 0) (mC (.int 0))) (mC (.int 2))) mNil))) mNil))))
def g_stood_in : FC := sem 1 m_stood_in
def m_writes_at : MS := (mSeq (mSet 3 (mMut (mLst mNil))) (mSeq (mFor (mRange2 (mVar 2) (mBin fAdd (mVar 2) (mBin fIx (mVar 0) (mC (.int 1))))) (nName 4) (mSeq (mSet 5 (mBin fMod (mVar 4) (mBin fIx (mVar 0) (mC (.int 0))))) (mIfS (mtAnd (mTst (mBin fNe (mBin fIx (mVar 1) (mVar 5)) (mC (.tuple [.str "torn"])))) (mtNot (mTst (mCall g_shows_in (mCons (mVar 0) (mCons (mVar 1) (mCons (mBin fSub (mVar 4) (mBin fIx (mVar 0) (mC (.int 0)))) mNil))))))) (mDrop (mAppend (mVar 3) (mTup (mCons (mVar 5) (mCons (mTup (mCons (mCall g_mark_in (mCons (mVar 0) (mCons (mBin fSub (mVar 4) (mBin fIx (mVar 0) (mC (.int 0)))) mNil))) (mCons (mC (.tuple [.str "blank"])) mNil))) mNil))))) mNext))) (mRet (mCall cTuple (mCons (mVar 3) mNil)))))
def g_writes_at : FC := trimG (sem 6 m_writes_at)
def m_begun_life : MS := (mRet (mTup (mCons (mBin fMulA (mTup (mCons (mTup (mCons (mBin fSub (mBin fIx (mVar 0) (mC (.int 2))) (mC (.int 1))) (mCons (mC (.tuple [.str "blank"])) mNil))) mNil)) (mBin fIx (mVar 0) (mC (.int 0)))) (mCons (mTup mNil) (mCons (mC (.int 0)) (mCons (mC .none) mNil))))))
def g_begun_life : FC := sem 1 m_begun_life
def m_behind_awake : MS := (mSeq (mAsgN (nTup (nCons (nName 3) (nCons (nName 4) (nCons (nName 5) (nCons (nName 6) nNil))))) (mVar 1)) (mSeq (mSet 7 (mTup (mCons (mTup (mCons (mVar 0) (mCons (mVar 3) (mCons (mVar 4) mNil)))) (mCons (mVar 5) mNil)))) (mSeq (mIfS (mtAnd (mTst (mCall g_is_long (mCons (mVar 2) (mCons (mC (.int 2)) mNil)))) (mtAnd (mTst (mBin fEq (mBin fIx (mVar 2) (mC (.int 0))) (mC (.str "write")))) (mTst (mCall g_is_record (mCons (mBin fIx (mVar 2) (mC (.int 1))) mNil))))) (mSeq (mAsgN (nTup (nCons (nTup (nCons (nName 6) (nCons (nName 8) (nCons (nName 9) nNil)))) (nCons (nName 10) nNil))) (mCall g_logged_in (mCons (mVar 7) (mCons (mBin fIx (mVar 2) (mC (.int 1))) mNil)))) (mRet (mTup (mCons (mVar 8) (mCons (mVar 9) (mCons (mVar 10) (mCons (mC .none) mNil))))))) mNext) (mSeq (mIfS (mtAnd (mTst (mCall g_is_long (mCons (mVar 2) (mCons (mC (.int 1)) mNil)))) (mTst (mBin fEq (mBin fIx (mVar 2) (mC (.int 0))) (mC (.str "sync"))))) (mRet (mTup (mCons (mCall g_view_in (mCons (mBin fIx (mVar 7) (mC (.int 0))) mNil)) (mCons (mTup mNil) (mCons (mVar 5) (mCons (mC .none) mNil)))))) mNext) (mSeq (mIfS (mtAnd (mTst (mCall g_is_long (mCons (mVar 2) (mCons (mC (.int 2)) mNil)))) (mtAnd (mTst (mBin fEq (mBin fIx (mVar 2) (mC (.int 0))) (mC (.str "cut")))) (mTst (mCall g_are_fates (mCons (mCall cLen (mCons (mVar 4) mNil)) (mCons (mBin fIx (mVar 2) (mC (.int 1))) mNil)))))) (mRet (mTup (mCons (mCall g_fallen (mCons (mVar 3) (mCons (mVar 4) (mCons (mBin fIx (mVar 2) (mC (.int 1))) mNil)))) (mCons (mTup mNil) (mCons (mC .none) (mCons (mTup (mCons (mCall g_stood_in (mCons (mVar 7) mNil)) (mCons (mCall cLen (mCons (mVar 4) mNil)) mNil))) mNil)))))) mNext) (mRet (mC .none)))))))
def g_behind_awake : FC := sem 11 m_behind_awake
def m_behind_asleep : MS := (mSeq (mPar 3 4 (mCons (mBin fIx (mVar 1) (mC (.int 0))) (mCons (mCall g_answer_in (mCons (mVar 0) (mCons (mBin fIx (mVar 1) (mC (.int 0))) mNil))) mNil))) (mSeq (mIfS (mTst (mBin fIs (mVar 4) (mC .none))) (mRet (mC .none)) mNext) (mSeq (mSet 5 (mCall g_writes_at (mCons (mVar 0) (mCons (mVar 3) (mCons (mVar 4) mNil))))) (mSeq (mIfS (mtAnd (mTst (mCall g_is_long (mCons (mVar 2) (mCons (mC (.int 1)) mNil)))) (mTst (mBin fEq (mBin fIx (mVar 2) (mC (.int 0))) (mC (.str "wake"))))) (mRet (mTup (mCons (mCall g_fallen (mCons (mVar 3) (mCons (mVar 5) (mCons (mBin fMulA (mTup (mCons (mC (.str "new")) mNil)) (mCall cLen (mCons (mVar 5) mNil))) mNil)))) (mCons (mTup mNil) (mCons (mVar 4) (mCons (mC .none) mNil)))))) mNext) (mSeq (mIfS (mtOr (mtNot (mTst (mCall g_is_long (mCons (mVar 2) (mCons (mC (.int 3)) mNil))))) (mtOr (mTst (mBin fNe (mBin fIx (mVar 2) (mC (.int 0))) (mC (.str "mend")))) (mtNot (mTst (mCall g_is_within (mCons (mBin fIx (mVar 2) (mC (.int 1))) (mCons (mC (.int 0)) (mCons (mCall cLen (mCons (mVar 5) mNil)) mNil)))))))) (mRet (mC .none)) mNext) (mSeq (mIfS (mtNot (mTst (mCall g_are_fates (mCons (mBin fIx (mVar 2) (mC (.int 1))) (mCons (mBin fIx (mVar 2) (mC (.int 2))) mNil))))) (mRet (mC .none)) mNext) (mRet (mTup (mCons (mCall g_fallen (mCons (mVar 3) (mCons (mSl (mVar 5) mNo (mPart (mBin fIx (mVar 2) (mC (.int 1))))) (mCons (mBin fIx (mVar 2) (mC (.int 2))) mNil)))) (mCons (mTup mNil) (mCons (mC .none) (mCons (mBin fIx (mVar 1) (mC (.int 3))) mNil))))))))))))
def g_behind_asleep : FC := sem 6 m_behind_asleep
def m_life_in : MS := (mSeq (mSet 2 (mCall g_begun_life (mCons (mVar 0) mNil))) (mSeq (mFor (mIter (mVar 1)) (nName 3) (mIfS (mtAnd (mTst (mBin fIsNot (mVar 2) (mC .none))) (mTst (mCall cIsi (mCons (mVar 3) (mCons (mTy .tuple) mNil))))) (mSet 2 (mIf (mTst (mBin fIs (mBin fIx (mVar 2) (mC (.int 2))) (mC .none))) (mCall g_behind_asleep (mCons (mVar 0) (mCons (mVar 2) (mCons (mVar 3) mNil)))) (mCall g_behind_awake (mCons (mVar 0) (mCons (mVar 2) (mCons (mVar 3) mNil)))))) (mRet (mC .none)))) (mRet (mVar 2))))
def g_life_in : FC := sem 4 m_life_in
def m_bars_in : MS := (mSeq (mAsgN (nTup (nCons (nName 3) (nCons (nName 4) (nCons (nName 5) nNil)))) (mVar 0)) (mSeq (mSet 6 (mMut (mComp (mRange2 (mBin fAdd (mBin fSub (mVar 2) (mVar 3)) (mVar 4)) (mVar 2)) (nName 7) (mtNot (mTst (mCall g_shows_in (mCons (mVar 0) (mCons (mVar 1) (mCons (mVar 7) mNil)))))) (mBin fMod (mVar 7) (mVar 3)) [7]))) (mSeq (mFor (mRange2 (mVar 2) (mBin fAdd (mVar 2) (mVar 4))) (nName 7) (mSeq (mSet 8 (mOr (mCall g_shows_in (mCons (mVar 0) (mCons (mVar 1) (mCons (mVar 7) mNil)))) (mCall g_shows_in (mCons (mVar 0) (mCons (mVar 1) (mCons (mBin fSub (mVar 7) (mVar 3)) mNil)))))) (mIfS (mtAnd (mTst (mBin fNe (mBin fIx (mVar 1) (mBin fMod (mVar 7) (mVar 3))) (mC (.tuple [.str "torn"])))) (mtNot (mTst (mVar 8)))) (mDrop (mAppend (mVar 6) (mBin fMod (mVar 7) (mVar 3)))) mNext))) (mRet (mImm (mCallF cSorted (mCons (mVar 6) mNil)))))))
def g_bars_in : FC := trimG (sem 9 m_bars_in)
def m_bars : MS := (mSeq (mAsgN (nTup (nCons (nName 3) (nCons (nName 4) nNil))) (mCall g_sure_both (mCons (mVar 0) (mCons (mVar 1) mNil)))) (mRet (mCall cTuple (mCons (mCall g_bars_in (mCons (mVar 3) (mCons (mVar 4) (mCons (mCall g_sure_place (mCons (mVar 3) (mCons (mVar 2) mNil))) mNil)))) mNil))))
def g_bars : FC := sem 5 m_bars
def m_all_bars : MS := (mRet (mImm (mComp (mRange1 (mBin fMulA (mBin fIx (mVar 0) (mC (.int 0))) (mBin fIx (mVar 0) (mC (.int 2))))) (nName 2) mtYes (mCall g_bars_in (mCons (mVar 0) (mCons (mVar 1) (mCons (mVar 2) mNil)))) [2])))
def g_all_bars : FC := sem 3 m_all_bars
def m_can_lie_in : MS := (mRet (mBin (fInB false) (mImm (mLst mNil)) (mCall g_all_bars (mCons (mVar 0) (mCons (mVar 1) mNil)))))
def g_can_lie_in : FC := sem 2 m_can_lie_in
def m_can_lie : MS := (mSeq (mAsgN (nTup (nCons (nName 2) (nCons (nName 3) nNil))) (mCall g_sure_both (mCons (mVar 0) (mCons (mVar 1) mNil)))) (mRet (mCall g_can_lie_in (mCons (mVar 2) (mCons (mVar 3) mNil)))))
def g_can_lie : FC := sem 4 m_can_lie
def m_stood_record : MS := (mRet (mIf (mTst (mCall g_shows_in (mCons (mVar 0) (mCons (mVar 1) (mCons (mVar 2) mNil))))) (mBin fIx (mBin fIx (mVar 1) (mBin fMod (mVar 2) (mBin fIx (mVar 0) (mC (.int 0))))) (mC (.int 1))) (mC (.tuple [.str "blank"]))))
def g_stood_record : FC := sem 3 m_stood_record
def m_flown_at : MS := (mSeq (mSet 3 (mBin fIx (mVar 1) (mBin fMod (mVar 2) (mBin fIx (mVar 0) (mC (.int 0)))))) (mSeq (mIfS (mTst (mBin fEq (mVar 3) (mC (.tuple [.str "torn"])))) (mRet (mTup (mCons (mC (.tuple [.str "blank"])) (mCons (mC (.str "torn")) mNil)))) mNext) (mRet (mIf (mTst (mCall g_shows_in (mCons (mVar 0) (mCons (mVar 1) (mCons (mBin fSub (mVar 2) (mBin fIx (mVar 0) (mC (.int 0)))) mNil))))) (mTup (mCons (mC (.tuple [.str "blank"])) (mCons (mC (.str "old")) mNil))) (mTup (mCons (mBin fIx (mVar 3) (mC (.int 1))) (mCons (mC (.str "new")) mNil)))))))
def g_flown_at : FC := sem 4 m_flown_at
def m_life_to : MSX := (mSeqX (mAsgN (nTup (nCons (nName 2) (nCons (nName 3) nNil))) (mCall g_sure_both (mCons (mVar 0) (mCons (mVar 1) mNil)))) (mGuard (mtNot (mTst (mCall g_can_lie_in (mCons (mVar 2) (mCons (mVar 3) mNil))))) (mSeq (mSet 4 (mBin fIndex (mCall g_all_bars (mCons (mVar 2) (mCons (mVar 3) mNil))) (mImm (mLst mNil)))) (mSeq (mSet 5 (mIf (mTst (mBin fGe (mVar 4) (mBin fIx (mVar 2) (mC (.int 0))))) (mVar 4) (mBin fAdd (mVar 4) (mBin fMulA (mBin fIx (mVar 2) (mC (.int 0))) (mBin fIx (mVar 2) (mC (.int 2))))))) (mSeq (mSet 6 (mImm (mComp (mRange1 (mVar 5)) (nName 9) mtYes (mTup (mCons (mC (.str "write")) (mCons (mCall g_stood_record (mCons (mVar 2) (mCons (mVar 3) (mCons (mVar 9) mNil)))) mNil))) [9]))) (mSeq (mSet 7 (mImm (mComp (mRange2 (mVar 5) (mBin fAdd (mVar 5) (mBin fIx (mVar 2) (mC (.int 1))))) (nName 9) mtYes (mCall g_flown_at (mCons (mVar 2) (mCons (mVar 3) (mCons (mVar 9) mNil)))) [9]))) (mSeq (mSet 8 (mImm (mComp (mIter (mVar 7)) (nTup (nCons (nName 10) (nCons (nName 11) nNil))) mtYes (mTup (mCons (mC (.str "write")) (mCons (mVar 10) mNil))) [10, 11]))) (mRet (mCall cTuple (mCons (mImm (mBinF fCat (mImm (mBinF fCat (mImm (mBinF fCat (mVar 6) (mImm (mLst (mCons (mTup (mCons (mC (.str "sync")) mNil)) mNil))))) (mVar 8))) (mImm (mLst (mCons (mTup (mCons (mC (.str "cut")) (mCons (mCall cTuple (mCons (mImm (mComp (mIter (mVar 7)) (nTup (nCons (nName 11) (nCons (nName 12) nNil))) mtYes (mVar 12) [11, 12])) mNil)) mNil))) mNil))))) mNil))))))))))
def g_life_to : FX := semX 13 m_life_to
def m_is_life_to : MS := (mSeq (mAsgN (nTup (nCons (nName 3) (nCons (nName 4) nNil))) (mCall g_sure_both (mCons (mVar 0) (mCons (mVar 1) mNil)))) (mSeq (mSet 5 (mIf (mTst (mCall cIsi (mCons (mVar 2) (mCons (mTy .tuple) mNil)))) (mCall g_life_in (mCons (mVar 3) (mCons (mVar 2) mNil))) (mC .none))) (mRet (mAnd (mBin fIsNot (mVar 5) (mC .none)) (mBin fEq (mBin fIx (mVar 5) (mC (.int 0))) (mVar 4))))))
def g_is_life_to : FC := sem 6 m_is_life_to
def m_reason : MSX := (mSeqX (mAsgN (nTup (nCons (nName 2) (nCons (nName 3) nNil))) (mCall g_sure_both (mCons (mVar 0) (mCons (mVar 1) mNil)))) (mSeqX (mSet 4 (mCall g_all_bars (mCons (mVar 2) (mCons (mVar 3) mNil)))) (mGuard (mTst (mBin (fInB false) (mImm (mLst mNil)) (mVar 4))) (mRet (mCall cTuple (mCons (mImm (mComp (mIter (mVar 4)) (nName 3) mtYes (mBin fIx (mVar 3) (mC (.int 0))) [3])) mNil))))))
def g_reason : FX := semX 5 m_reason
def m_is_reason : MS := (mSeq (mAsgN (nTup (nCons (nName 3) (nCons (nName 4) nNil))) (mCall g_sure_both (mCons (mVar 0) (mCons (mVar 1) mNil)))) (mSeq (mSet 5 (mCall g_all_bars (mCons (mVar 3) (mCons (mVar 4) mNil)))) (mSeq (mIfS (mtOr (mtNot (mTst (mCall g_is_long (mCons (mVar 2) (mCons (mCall cLen (mCons (mVar 5) mNil)) mNil))))) (mtNot (mTst (mCall cAll (mCons (mImm (mComp (mIter (mVar 2)) (nName 3) mtYes (mCall g_is_number (mCons (mVar 3) mNil)) [3])) mNil))))) (mRet (mC (.bool false))) mNext) (mRet (mCall cAll (mCons (mImm (mComp (mZip (mVar 2) (mVar 5)) (nTup (nCons (nName 3) (nCons (nName 4) nNil))) mtYes (mBin (fInB false) (mVar 3) (mVar 4)) [3, 4])) mNil))))))
def g_is_reason : FC := sem 6 m_is_reason
def m__law_box : MS := (mSeq (mSet 2 (mIf (mTst (mBin fLt (mVar 1) (mCall cLen (mCons (mVar 0) mNil)))) (mBin fIx (mVar 0) (mVar 1)) (mC (.int 0)))) (mRet (mMut (mLst (mCons (mBin fMulA (mCall cAbs (mCons (mVar 2) mNil)) (mCall cInt (mCons (mBin fGe (mCall cAbs (mCons (mVar 2) mNil)) (mBin fPow (mC (.int 10)) (mC (.int 18)))) mNil))) (mCons (mBin fAdd (mBin fAdd (mBin fMod (mCall cInt (mCons (mVar 2) mNil)) (mC (.int 2305843009213693951))) (mBin fMulA (mC (.int 39373)) (mVar 1))) (mC (.int 3182015))) (mCons (mC (.int 0)) mNil)))))))
def g__law_box : FC := sem 3 m__law_box
def m__law_take : MS := (mSeq (mIfS (mTst (mBin fGt (mBin fIx (mVar 0) (mC (.int 0))) (mC (.int 0)))) (mSeq (mSet 2 (mBin fMod (mCall cInt (mCons (mBin fIx (mVar 0) (mC (.int 0))) mNil)) (mVar 1))) (mSeq (mAsgG (gSubD (mVar 0) (mC (.int 0))) (mBin fDiv (mBin fIx (mVar 0) (mC (.int 0))) (mVar 1))) (mRet (mVar 2)))) mNext) (mSeq (mAsgG (gSubD (mVar 0) (mC (.int 2))) (mBin fAdd (mBin fIx (mVar 0) (mC (.int 2))) (mC (.int 1)))) (mSeq (mSet 3 (mBin fMod (mCall cInt (mCons (mBin fMulA (mBin fAdd (mBin fIx (mVar 0) (mC (.int 1))) (mBin fMulA (mC (.int 48271)) (mBin fIx (mVar 0) (mC (.int 2))))) (mBin fAdd (mC (.int 39373)) (mBin fIx (mVar 0) (mC (.int 2))))) mNil)) (mC (.int 2147483647)))) (mSeq (mSet 4 (mBin fAdd (mBin fMod (mCall cInt (mCons (mVar 3) mNil)) (mC (.int 40009))) (mC (.int 7)))) (mSeq (mSet 5 (mBin fMod (mCall cInt (mCons (mBin fMulA (mBin fAdd (mBin fAdd (mVar 3) (mBin fIx (mVar 0) (mC (.int 2)))) (mBin fDiv (mBin fIx (mVar 0) (mC (.int 1))) (mC (.int 1000003)))) (mVar 4)) mNil)) (mC (.int 2147483629)))) (mRet (mBin fMod (mCall cInt (mCons (mBin fDiv (mBin fMod (mCall cInt (mCons (mBin fAdd (mBin fMulA (mVar 5) (mC (.int 48271))) (mVar 3)) mNil)) (mC (.int 2147483587))) (mC (.int 64))) mNil)) (mVar 1))))))))
def g__law_take : FC := sem 6 m__law_take
def m__law_cells : MS := (mSeq (mSet 2 (mOrL (mMut (mCallF cList (mCons (mSl (mVar 0) mNo (mPart (mVar 1))) mNil))) (mMut (mLst (mCons (mC (.int 0)) mNil))))) (mSeq (mFor (mEnum (mSl (mVar 0) (mPart (mVar 1)) (mPart (mC (.int 63))))) (nTup (nCons (nName 3) (nCons (nName 4) nNil))) (mSeq (mSet 5 (mBin fMod (mCall cInt (mCons (mVar 3) mNil)) (mVar 1))) (mAsgG (gSubD (mVar 2) (mVar 5)) (mBin fAdd (mBin fIx (mVar 2) (mVar 5)) (mBin fMulA (mVar 4) (mBin fAdd (mVar 3) (mC (.int 2)))))))) (mRet (mVar 2))))
def g__law_cells : FC := sem 6 m__law_cells
def m__law_of : MS := (mRet (mBin fIx (mVar 1) (mCall g__law_take (mCons (mVar 0) (mCons (mCall cLen (mCons (mVar 1) mNil)) mNil)))))
def g__law_of : FC := sem 2 m__law_of
def m__law_pick : MS := (mSeq (mPar 3 4 (mCons (mMut (mCallF cList (mCons (mVar 1) mNil))) (mCons (mMut (mLst mNil)) mNil))) (mSeq (mFor (mRange1 (mCall cMin (mCons (mCall cInt (mCons (mVar 2) mNil)) (mCons (mCall cLen (mCons (mVar 3) mNil)) mNil)))) (nName 5) (mDrop (mAppend (mVar 4) (mPop (mVar 3) (mCall g__law_take (mCons (mVar 0) (mCons (mCall cLen (mCons (mVar 3) mNil)) mNil))))))) (mRet (mVar 4))))
def g__law_pick : FC := trimG (sem 6 m__law_pick)
def m__law_lists (g : FC) : MS := (mRet (mIf (mTst (mCall cIsi (mCons (mVar 0) (mCons (mTupTy (mCons (mTy .list) (mCons (mTy .tuple) mNil))) mNil)))) (mImm (mComp (mIter (mVar 0)) (nName 1) mtYes (mCall g (mCons (mVar 1) mNil)) [1])) (mVar 0)))
def gR__law_lists : Nat → FC
  | 0 => fun _ _ => none
  | d + 1 => sem 2 (m__law_lists (gR__law_lists d))
def g__law_lists : FC := gR__law_lists 12
def m__law_same (g : FC) : MS := (mSeq (mIfS (mTst (mCall cIsi (mCons (mVar 1) (mCons (mTupTy (mCons (mTy .list) (mCons (mTy .tuple) mNil))) mNil)))) (mSeq (mIfS (mtOr (mTst (mBin fNe (mCall cIsi (mCons (mVar 0) (mCons (mTy .list) mNil))) (mCall cIsi (mCons (mVar 1) (mCons (mTy .list) mNil))))) (mTst (mBin fNe (mCall cIsi (mCons (mVar 0) (mCons (mTy .tuple) mNil))) (mCall cIsi (mCons (mVar 1) (mCons (mTy .tuple) mNil)))))) (mRet (mC (.bool false))) mNext) (mRet (mAnd (mBin fEq (mCall cLen (mCons (mVar 0) mNil)) (mCall cLen (mCons (mVar 1) mNil))) (mCall cAll (mCons (mImm (mComp (mZip (mVar 0) (mVar 1)) (nTup (nCons (nName 2) (nCons (nName 3) nNil))) mtYes (mCall g (mCons (mVar 2) (mCons (mVar 3) mNil))) [2, 3])) mNil))))) mNext) (mSeq (mIfS (mtOr (mTst (mBin fIs (mVar 1) (mC .none))) (mTst (mCall cIsi (mCons (mVar 1) (mCons (mTupTy (mCons (mTy .bool) (mCons (mTy .str) mNil))) mNil))))) (mRet (mAnd (mBin fEq (mVar 0) (mVar 1)) (mAnd (mBin fEq (mCall cIsi (mCons (mVar 0) (mCons (mTy .bool) mNil))) (mCall cIsi (mCons (mVar 1) (mCons (mTy .bool) mNil)))) (mBin fEq (mBin fIs (mVar 0) (mC .none)) (mBin fIs (mVar 1) (mC .none)))))) mNext) (mRet (mAnd (mCall cIsi (mCons (mVar 0) (mCons (mTy .int) mNil))) (mAnd (mNot (mCall cIsi (mCons (mVar 0) (mCons (mTy .bool) mNil)))) (mBin fEq (mVar 0) (mVar 1)))))))
def gR__law_same : Nat → FC
  | 0 => fun _ _ => none
  | d + 1 => sem 4 (m__law_same (gR__law_same d))
def g__law_same : FC := gR__law_same 12
def m__law_lap : MS := (mRet (mBin fMod (mBin fDiv (mVar 1) (mBin fIx (mVar 0) (mC (.int 0)))) (mBin fIx (mVar 0) (mC (.int 2)))))
def g__law_lap : FC := sem 2 m__law_lap
def m__law_shows : MS := (mSeq (mSet 3 (mBin fIx (mVar 1) (mBin fMod (mCall cInt (mCons (mVar 2) mNil)) (mBin fIx (mVar 0) (mC (.int 0)))))) (mRet (mAnd (mBin fNe (mVar 3) (mTup (mCons (mC (.str "torn")) mNil))) (mBin fEq (mBin fIx (mVar 3) (mC (.int 0))) (mCall g__law_lap (mCons (mVar 0) (mCons (mVar 2) mNil)))))))
def g__law_shows : FC := sem 4 m__law_shows
def m__law_wholes : MS := (mSeq (mPar 2 3 (mCons (mBin fSub (mBin fIx (mVar 0) (mC (.int 0))) (mBin fIx (mVar 0) (mC (.int 1)))) (mCons (mBin fMulA (mBin fIx (mVar 0) (mC (.int 0))) (mBin fIx (mVar 0) (mC (.int 2)))) mNil))) (mSeq (mSet 4 (mMut (mLst mNil))) (mSeq (mFor (mRange1 (mVar 3)) (nName 5) (mIfS (mTst (mBin fEq (mImm (mComp (mRange2 (mC (.int 1)) (mBin fAdd (mVar 2) (mC (.int 1)))) (nName 6) (mtNot (mTst (mCall g__law_shows (mCons (mVar 0) (mCons (mVar 1) (mCons (mBin fSub (mVar 5) (mVar 6)) mNil)))))) (mVar 6) [6])) (mImm (mLst mNil)))) (mDrop (mAppend (mVar 4) (mVar 5))) mNext)) (mRet (mVar 4)))))
def g__law_wholes : FC := trimG (sem 7 m__law_wholes)
def m__law_answer : MS := (mSeq (mPar 2 3 (mCons (mCall g__law_wholes (mCons (mVar 0) (mCons (mVar 1) mNil))) (mCons (mBin fMulA (mBin fIx (mVar 0) (mC (.int 0))) (mBin fIx (mVar 0) (mC (.int 2)))) mNil))) (mSeq (mSet 4 (mMut (mLst mNil))) (mSeq (mFor (mEnum (mVar 2)) (nTup (nCons (nName 5) (nCons (nName 6) nNil))) (mSeq (mSet 7 (mIf (mTst (mBin fLt (mBin fAdd (mVar 5) (mC (.int 1))) (mCall cLen (mCons (mVar 2) mNil)))) (mBin fIx (mVar 2) (mBin fAdd (mVar 5) (mC (.int 1)))) (mBin fAdd (mBin fIx (mVar 2) (mC (.int 0))) (mVar 3)))) (mIfS (mTst (mBin fGt (mBin fSub (mVar 7) (mVar 6)) (mBin fIx (mVar 0) (mC (.int 1))))) (mDrop (mAppend (mVar 4) (mVar 6))) mNext))) (mRet (mIf (mTst (mBin fEq (mCall cLen (mCons (mVar 4) mNil)) (mC (.int 1)))) (mBin fIx (mVar 4) (mC (.int 0))) (mC .none))))))
def g__law_answer : FC := trimG (sem 8 m__law_answer)
def m__law_blank : MS := (mRet (mTup (mCons (mC (.str "blank")) mNil)))
def g__law_blank : FC := sem 0 m__law_blank
def m__law_face : MS := (mRet (mBin fMulA (mTup (mCons (mTup (mCons (mBin fSub (mBin fIx (mVar 0) (mC (.int 2))) (mC (.int 1))) (mCons (mCall g__law_blank mNil) mNil))) mNil)) (mBin fIx (mVar 0) (mC (.int 0)))))
def g__law_face : FC := sem 1 m__law_face
def m__law_gear : MS := (mRet (mMut (mLst (mCons (mVar 0) (mCons (mMut (mCallF cList (mCons (mCall g__law_face (mCons (mVar 0) mNil)) mNil))) (mCons (mMut (mLst mNil)) (mCons (mC (.int 0)) (mCons (mImm (mLst mNil)) (mCons (mC (.int 0)) (mCons (mImm (mLst mNil)) (mCons (mC (.bool true)) mNil)))))))))))
def g__law_gear : FC := sem 1 m__law_gear
def m__law_stand : MS := (mSeq (mFor (mIter (mBin fIx (mVar 0) (mC (.int 2)))) (nTup (nCons (nName 1) (nCons (nName 2) nNil))) (mAsgG (gSubD (mBin fIx (mVar 0) (mC (.int 1))) (mVar 1)) (mVar 2))) (mAsgT (gsCons (gSubD (mVar 0) (mC (.int 2))) (gsCons (gSubD (mVar 0) (mC (.int 5))) gsNil)) (mCons (mMut (mLst mNil)) (mCons (mBin fIx (mVar 0) (mC (.int 3))) mNil))))
def g__law_stand : FC := sem 3 m__law_stand
def m__law_write : MS := (mSeq (mSet 2 (mBin fIx (mVar 0) (mC (.int 0)))) (mSeq (mIfS (mTst (mBin fEq (mCall cLen (mCons (mBin fIx (mVar 0) (mC (.int 2))) mNil)) (mBin fIx (mVar 2) (mC (.int 1))))) (mDrop (mCall g__law_stand (mCons (mVar 0) mNil))) mNext) (mSeq (mDrop (mAppend (mBin fIx (mVar 0) (mC (.int 2))) (mTup (mCons (mBin fMod (mCall cInt (mCons (mBin fIx (mVar 0) (mC (.int 3))) mNil)) (mBin fIx (mVar 2) (mC (.int 0)))) (mCons (mTup (mCons (mCall g__law_lap (mCons (mVar 2) (mCons (mBin fIx (mVar 0) (mC (.int 3))) mNil))) (mCons (mVar 1) mNil))) mNil))))) (mAsgT (gsCons (gSubD (mVar 0) (mC (.int 3))) (gsCons (gSubD (mVar 0) (mC (.int 4))) gsNil)) (mCons (mBin fAdd (mBin fIx (mVar 0) (mC (.int 3))) (mC (.int 1))) (mCons (mImm (mBinF fCat (mBin fIx (mVar 0) (mC (.int 4))) (mImm (mLst (mCons (mVar 1) mNil))))) mNil))))))
def g__law_write : FC := sem 3 m__law_write
def m__law_fates : MS := (mRet (mCall cTuple (mCons (mImm (mComp (mRange1 (mVar 1)) (nName 2) mtYes (mCall g__law_of (mCons (mVar 0) (mCons (mImm (mLst (mCons (mC (.str "old")) (mCons (mC (.str "new")) (mCons (mC (.str "torn")) mNil))))) mNil))) [2])) mNil)))
def g__law_fates : FC := sem 3 m__law_fates
def m__law_fallen : MS := (mSeq (mSet 3 (mMut (mCallF cList (mCons (mVar 0) mNil)))) (mSeq (mFor (mZip (mVar 1) (mVar 2)) (nTup (nCons (nName 4) (nCons (nName 5) nNil))) (mIfS (mTst (mBin fNe (mVar 5) (mC (.str "old")))) (mAsgG (gSubD (mVar 3) (mBin fIx (mVar 4) (mC (.int 0)))) (mIf (mTst (mBin fEq (mVar 5) (mC (.str "new")))) (mBin fIx (mVar 4) (mC (.int 1))) (mTup (mCons (mC (.str "torn")) mNil)))) mNext)) (mRet (mVar 3))))
def g__law_fallen : FC := sem 6 m__law_fallen
def m__law_cut : MS := (mAsgT (gsCons (gSubD (mVar 0) (mC (.int 1))) (gsCons (gSubD (mVar 0) (mC (.int 2))) (gsCons (gSubD (mVar 0) (mC (.int 7))) gsNil))) (mCons (mCall g__law_fallen (mCons (mBin fIx (mVar 0) (mC (.int 1))) (mCons (mBin fIx (mVar 0) (mC (.int 2))) (mCons (mVar 1) mNil)))) (mCons (mMut (mLst mNil)) (mCons (mC (.bool false)) mNil))))
def g__law_cut : FC := sem 2 m__law_cut
def m__law_mending : MS := (mSeq (mPar 2 3 (mCons (mCall g__law_answer (mCons (mVar 0) (mCons (mVar 1) mNil))) (mCons (mMut (mLst mNil)) mNil))) (mSeq (mFor (mRange1 (mBin fIx (mVar 0) (mC (.int 1)))) (nName 4) (mSeq (mPar 5 6 (mCons (mBin fMod (mCall cInt (mCons (mBin fAdd (mVar 2) (mVar 4)) mNil)) (mBin fIx (mVar 0) (mC (.int 0)))) (mCons (mBin fSub (mBin fAdd (mVar 2) (mVar 4)) (mBin fIx (mVar 0) (mC (.int 0)))) mNil))) (mIfS (mtAnd (mTst (mBin fNe (mBin fIx (mVar 1) (mVar 5)) (mTup (mCons (mC (.str "torn")) mNil)))) (mtNot (mTst (mCall g__law_shows (mCons (mVar 0) (mCons (mVar 1) (mCons (mVar 6) mNil))))))) (mDrop (mAppend (mVar 3) (mTup (mCons (mVar 5) (mCons (mTup (mCons (mCall g__law_lap (mCons (mVar 0) (mCons (mVar 6) mNil))) (mCons (mCall g__law_blank mNil) mNil))) mNil))))) mNext))) (mRet (mVar 3))))
def g__law_mending : FC := trimG (sem 7 m__law_mending)
def m__law_mend : MS := (mAsgG (gSubD (mVar 0) (mC (.int 1))) (mCall g__law_fallen (mCons (mBin fIx (mVar 0) (mC (.int 1))) (mCons (mSl (mCall g__law_mending (mCons (mBin fIx (mVar 0) (mC (.int 0))) (mCons (mBin fIx (mVar 0) (mC (.int 1))) mNil))) mNo (mPart (mVar 1))) (mCons (mVar 2) mNil)))))
def g__law_mend : FC := sem 3 m__law_mend
def m__law_any_form : MS := (mSeq (mSet 2 (mBin fAdd (mC (.int 2)) (mCall g__law_take (mCons (mVar 0) (mCons (mBin fSub (mVar 1) (mC (.int 1))) mNil))))) (mRet (mTup (mCons (mVar 2) (mCons (mBin fAdd (mC (.int 1)) (mCall g__law_take (mCons (mVar 0) (mCons (mBin fSub (mVar 2) (mC (.int 1))) mNil)))) (mCons (mCall g__law_of (mCons (mVar 0) (mCons (mImm (mLst (mCons (mC (.int 2)) (mCons (mC (.int 3)) (mCons (mC (.int 2)) (mCons (mC (.int 1)) (mCons (mC (.int 3)) (mCons (mC (.int 4)) mNil)))))))) mNil))) mNil))))))
def g__law_any_form : FC := sem 3 m__law_any_form
def m__law_note : MS := (mRet (mCall g__law_of (mCons (mVar 0) (mCons (mImm (mLst (mCons (mCall g__law_blank mNil) (mCons (mTup (mCons (mC (.str "put")) (mCons (mC (.str "a")) (mCons (mC (.str "x")) (mCons (mC (.int 0)) (mCons (mC (.int 0)) mNil)))))) (mCons (mTup (mCons (mC (.str "drop")) (mCons (mC (.str "b")) (mCons (mC (.int 0)) (mCons (mC (.int 0)) mNil))))) (mCons (mTup (mCons (mC (.str "put")) (mCons (mC (.str "@c")) (mCons (mC (.str "w7")) (mCons (mC (.int 1)) (mCons (mC (.int 2)) mNil)))))) (mCons (mTup (mCons (mC (.str "drop")) (mCons (mC (.str "a")) (mCons (mC (.int 2)) (mCons (mC (.int 0)) mNil))))) mNil))))))) mNil))))
def g__law_note : FC := sem 1 m__law_note
def m__law_any_face : MS := (mSeq (mPar 2 3 (mCons (mCall g__law_take (mCons (mVar 0) (mCons (mBin fMulA (mBin fIx (mVar 1) (mC (.int 0))) (mBin fIx (mVar 1) (mC (.int 2)))) mNil))) (mCons (mBin fSub (mBin fIx (mVar 1) (mC (.int 0))) (mBin fIx (mVar 1) (mC (.int 1)))) mNil))) (mSeq (mSet 4 (mMut (mBinF fRep (mImm (mLst (mCons (mTup (mCons (mC (.str "torn")) mNil)) mNil))) (mBin fIx (mVar 1) (mC (.int 0)))))) (mSeq (mFor (mRange2 (mBin fSub (mVar 2) (mVar 3)) (mBin fAdd (mVar 2) (mBin fIx (mVar 1) (mC (.int 1))))) (nName 5) (mSeq (mSet 6 (mCall g__law_take (mCons (mVar 0) (mCons (mC (.int 8)) mNil)))) (mSeq (mSet 7 (mIf (mtOr (mTst (mBin fLt (mVar 5) (mVar 2))) (mTst (mBin fLt (mVar 6) (mC (.int 4))))) (mVar 5) (mBin fSub (mVar 5) (mBin fIx (mVar 1) (mC (.int 0)))))) (mSeq (mSet 8 (mTup (mCons (mCall g__law_lap (mCons (mVar 1) (mCons (mVar 7) mNil))) (mCons (mCall g__law_note (mCons (mVar 0) mNil)) mNil)))) (mSeq (mIfS (mTst (mBin fEq (mVar 6) (mC (.int 7)))) (mSet 8 (mIf (mTst (mBin fEq (mCall g__law_take (mCons (mVar 0) (mCons (mC (.int 2)) mNil))) (mC (.int 0)))) (mTup (mCons (mCall g__law_take (mCons (mVar 0) (mCons (mBin fIx (mVar 1) (mC (.int 2))) mNil))) (mCons (mCall g__law_note (mCons (mVar 0) mNil)) mNil))) (mVar 8))) mNext) (mIfS (mtOr (mTst (mBin fNe (mVar 6) (mC (.int 6)))) (mtAnd (mTst (mBin fLt (mVar 5) (mVar 2))) (mTst (mBin fGt (mCall g__law_take (mCons (mVar 0) (mCons (mC (.int 3)) mNil))) (mC (.int 0)))))) (mAsgG (gSubD (mVar 4) (mBin fMod (mCall cInt (mCons (mVar 5) mNil)) (mBin fIx (mVar 1) (mC (.int 0))))) (mVar 8)) mNext)))))) (mRet (mCall cTuple (mCons (mVar 4) mNil))))))
def g__law_any_face : FC := trimG (sem 9 m__law_any_face)
def m__law_bars : MS := (mSeq (mSet 3 (mMut (mLst mNil))) (mSeq (mFor (mRange2 (mBin fAdd (mBin fSub (mVar 2) (mBin fIx (mVar 0) (mC (.int 0)))) (mBin fIx (mVar 0) (mC (.int 1)))) (mBin fAdd (mVar 2) (mBin fIx (mVar 0) (mC (.int 1))))) (nName 4) (mSeq (mSet 5 (mBin fMod (mCall cInt (mCons (mVar 4) mNil)) (mBin fIx (mVar 0) (mC (.int 0))))) (mSeq (mSet 6 (mCall g__law_shows (mCons (mVar 0) (mCons (mVar 1) (mCons (mVar 4) mNil))))) (mSeq (mIfS (mTst (mBin fGe (mVar 4) (mVar 2))) (mSet 6 (mOr (mVar 6) (mOr (mBin fEq (mBin fIx (mVar 1) (mVar 5)) (mTup (mCons (mC (.str "torn")) mNil))) (mCall g__law_shows (mCons (mVar 0) (mCons (mVar 1) (mCons (mBin fSub (mVar 4) (mBin fIx (mVar 0) (mC (.int 0)))) mNil))))))) mNext) (mIfS (mtNot (mTst (mVar 6))) (mDrop (mAppend (mVar 3) (mVar 5))) mNext))))) (mRet (mCall cTuple (mCons (mImm (mCallF cSorted (mCons (mVar 3) mNil))) mNil)))))
def g__law_bars : FC := trimG (sem 7 m__law_bars)
def m__law_is_note : MS := (mSeq (mIfS (mtOr (mtNot (mTst (mCall cIsi (mCons (mVar 0) (mCons (mTy .tuple) mNil))))) (mtOr (mTst (mBin fEq (mVar 0) (mTup mNil))) (mtNot (mTst (mCall cIsi (mCons (mBin fIx (mVar 0) (mC (.int 0))) (mCons (mTy .str) mNil))))))) (mRet (mC (.bool false))) mNext) (mSeq (mIfS (mTst (mBin fEq (mBin fIx (mVar 0) (mC (.int 0))) (mC (.str "blank")))) (mRet (mBin fEq (mCall cLen (mCons (mVar 0) mNil)) (mC (.int 1)))) mNext) (mSeq (mIfS (mtOr (mTst (mBin (fInB true) (mBin fIx (mVar 0) (mC (.int 0))) (mTup (mCons (mC (.str "put")) (mCons (mC (.str "drop")) mNil))))) (mTst (mBin fNe (mCall cLen (mCons (mVar 0) mNil)) (mIf (mTst (mBin fEq (mBin fIx (mVar 0) (mC (.int 0))) (mC (.str "put")))) (mC (.int 5)) (mC (.int 4)))))) (mRet (mC (.bool false))) mNext) (mSeq (mIfS (mTst (mBin fNe (mImm (mComp (mIter (mSl (mVar 0) (mPart (mC (.int 1))) (mPart (mNeg (mC (.int 2)))))) (nName 1) (mtNot (mTst (mCall cIsi (mCons (mVar 1) (mCons (mTy .str) mNil))))) (mVar 1) [1])) (mImm (mLst mNil)))) (mRet (mC (.bool false))) mNext) (mRet (mBin fEq (mImm (mComp (mIter (mSl (mVar 0) (mPart (mNeg (mC (.int 2)))) mNo)) (nName 1) (mtOr (mtNot (mTst (mCall cIsi (mCons (mVar 1) (mCons (mTy .int) mNil))))) (mtOr (mTst (mCall cIsi (mCons (mVar 1) (mCons (mTy .bool) mNil)))) (mTst (mBin fLt (mVar 1) (mC (.int 0)))))) (mVar 1) [1])) (mImm (mLst mNil))))))))
def g__law_is_note : FC := sem 2 m__law_is_note
def m__law_are_fates : MS := (mSeq (mIfS (mtOr (mtNot (mTst (mCall cIsi (mCons (mVar 0) (mCons (mTy .tuple) mNil))))) (mTst (mBin fNe (mCall cLen (mCons (mVar 0) mNil)) (mVar 1)))) (mRet (mC (.bool false))) mNext) (mRet (mBin fEq (mImm (mComp (mIter (mVar 0)) (nName 2) (mtOr (mtNot (mTst (mCall cIsi (mCons (mVar 2) (mCons (mTy .str) mNil))))) (mTst (mBin (fInB true) (mVar 2) (mTup (mCons (mC (.str "old")) (mCons (mC (.str "new")) (mCons (mC (.str "torn")) mNil))))))) (mVar 2) [2])) (mImm (mLst mNil)))))
def g__law_are_fates : FC := sem 3 m__law_are_fates
def m__law_went : MS := (mSeq (mIfS (mtOr (mtNot (mTst (mCall cIsi (mCons (mVar 2) (mCons (mTy .tuple) mNil))))) (mtOr (mTst (mBin fEq (mVar 2) (mTup mNil))) (mtNot (mTst (mCall cIsi (mCons (mBin fIx (mVar 2) (mC (.int 0))) (mCons (mTy .str) mNil))))))) (mRet (mC (.bool false))) mNext) (mSeq (mIfS (mTst (mBin fIx (mVar 1) (mC (.int 7)))) (mSeq (mIfS (mtAnd (mTst (mBin fEq (mBin fIx (mVar 2) (mC (.int 0))) (mC (.str "write")))) (mtAnd (mTst (mBin fEq (mCall cLen (mCons (mVar 2) mNil)) (mC (.int 2)))) (mTst (mCall g__law_is_note (mCons (mBin fIx (mVar 2) (mC (.int 1))) mNil))))) (mDrop (mCall g__law_write (mCons (mVar 1) (mCons (mBin fIx (mVar 2) (mC (.int 1))) mNil)))) (mIfS (mTst (mBin fEq (mVar 2) (mTup (mCons (mC (.str "sync")) mNil)))) (mDrop (mCall g__law_stand (mCons (mVar 1) mNil))) (mIfS (mtAnd (mTst (mBin fEq (mBin fIx (mVar 2) (mC (.int 0))) (mC (.str "cut")))) (mtAnd (mTst (mBin fEq (mCall cLen (mCons (mVar 2) mNil)) (mC (.int 2)))) (mTst (mCall g__law_are_fates (mCons (mBin fIx (mVar 2) (mC (.int 1))) (mCons (mCall cLen (mCons (mBin fIx (mVar 1) (mC (.int 2))) mNil)) mNil)))))) (mDrop (mCall g__law_cut (mCons (mVar 1) (mCons (mBin fIx (mVar 2) (mC (.int 1))) mNil)))) (mRet (mC (.bool false)))))) (mRet (mC (.bool true)))) mNext) (mSeq (mSet 3 (mCall g__law_answer (mCons (mVar 0) (mCons (mCall cTuple (mCons (mBin fIx (mVar 1) (mC (.int 1))) mNil)) mNil)))) (mSeq (mIfS (mTst (mBin fIs (mVar 3) (mC .none))) (mRet (mC (.bool false))) mNext) (mSeq (mIfS (mtAnd (mTst (mBin fEq (mBin fIx (mVar 2) (mC (.int 0))) (mC (.str "mend")))) (mtAnd (mTst (mBin fEq (mCall cLen (mCons (mVar 2) mNil)) (mC (.int 3)))) (mtAnd (mTst (mCall cIsi (mCons (mBin fIx (mVar 2) (mC (.int 1))) (mCons (mTy .int) mNil)))) (mtNot (mTst (mCall cIsi (mCons (mBin fIx (mVar 2) (mC (.int 1))) (mCons (mTy .bool) mNil)))))))) (mIfS (mtAnd (mTst (mChain fLe fLe (mC (.int 0)) (mBin fIx (mVar 2) (mC (.int 1))) (mCall cLen (mCons (mCall g__law_mending (mCons (mVar 0) (mCons (mBin fIx (mVar 1) (mC (.int 1))) mNil))) mNil)))) (mTst (mCall g__law_are_fates (mCons (mBin fIx (mVar 2) (mC (.int 2))) (mCons (mBin fIx (mVar 2) (mC (.int 1))) mNil))))) (mSeq (mDrop (mCall g__law_mend (mCons (mVar 1) (mCons (mBin fIx (mVar 2) (mC (.int 1))) (mCons (mBin fIx (mVar 2) (mC (.int 2))) mNil))))) (mRet (mC (.bool true)))) mNext) (mIfS (mTst (mBin fEq (mVar 2) (mTup (mCons (mC (.str "wake")) mNil)))) (mSeq (mFor (mIter (mCall g__law_mending (mCons (mVar 0) (mCons (mBin fIx (mVar 1) (mC (.int 1))) mNil)))) (nName 4) (mAsgG (gSubD (mBin fIx (mVar 1) (mC (.int 1))) (mBin fIx (mVar 4) (mC (.int 0)))) (mBin fIx (mVar 4) (mC (.int 1))))) (mSeq (mAsgT (gsCons (gSubD (mVar 1) (mC (.int 3))) (gsCons (gSubD (mVar 1) (mC (.int 5))) (gsCons (gSubD (mVar 1) (mC (.int 7))) gsNil))) (mCons (mVar 3) (mCons (mVar 3) (mCons (mC (.bool true)) mNil)))) (mRet (mC (.bool true))))) mNext)) (mRet (mC (.bool false))))))))
def g__law_went : FC := sem 5 m__law_went
def m__law_face_behind : MS := (mSeq (mSet 2 (mCall g__law_gear (mCons (mVar 0) mNil))) (mSeq (mIfS (mtNot (mTst (mCall cIsi (mCons (mVar 1) (mCons (mTy .tuple) mNil))))) (mRet (mC .none)) mNext) (mSeq (mFor (mIter (mVar 1)) (nName 3) (mIfS (mtNot (mTst (mCall g__law_went (mCons (mVar 0) (mCons (mVar 2) (mCons (mVar 3) mNil)))))) (mRet (mC .none)) mNext)) (mRet (mCall cTuple (mCons (mBin fIx (mVar 2) (mC (.int 1))) mNil))))))
def g__law_face_behind : FC := trimG (sem 4 m__law_face_behind)
def m__law_drawn_life : MS := (mSeq (mPar 3 4 (mCons (mCall g__law_gear (mCons (mVar 1) mNil)) (mCons (mMut (mLst mNil)) mNil))) (mSeq (mFor (mRange1 (mVar 2)) (nName 5) (mSeq (mSet 6 (mCall g__law_take (mCons (mVar 0) (mCons (mC (.int 8)) mNil)))) (mSeq (mIfS (mTst (mBin fIx (mVar 3) (mC (.int 7)))) (mSet 7 (mIf (mTst (mBin fLt (mVar 6) (mC (.int 5)))) (mTup (mCons (mC (.str "write")) (mCons (mCall g__law_note (mCons (mVar 0) mNil)) mNil))) (mIf (mTst (mBin fEq (mVar 6) (mC (.int 5)))) (mTup (mCons (mC (.str "sync")) mNil)) (mTup (mCons (mC (.str "cut")) (mCons (mCall g__law_fates (mCons (mVar 0) (mCons (mCall cLen (mCons (mBin fIx (mVar 3) (mC (.int 2))) mNil)) mNil))) mNil)))))) (mIfS (mTst (mBin fIs (mCall g__law_answer (mCons (mVar 1) (mCons (mCall cTuple (mCons (mBin fIx (mVar 3) (mC (.int 1))) mNil)) mNil))) (mC .none))) mBreak (mSeq (mSet 8 (mCall g__law_take (mCons (mVar 0) (mCons (mBin fAdd (mCall cLen (mCons (mCall g__law_mending (mCons (mVar 1) (mCons (mBin fIx (mVar 3) (mC (.int 1))) mNil))) mNil)) (mC (.int 1))) mNil)))) (mSet 7 (mIf (mTst (mBin fLt (mVar 6) (mC (.int 5)))) (mTup (mCons (mC (.str "wake")) mNil)) (mTup (mCons (mC (.str "mend")) (mCons (mVar 8) (mCons (mCall g__law_fates (mCons (mVar 0) (mCons (mVar 8) mNil))) mNil))))))))) (mSeq (mIfS (mtNot (mTst (mCall g__law_went (mCons (mVar 1) (mCons (mVar 3) (mCons (mVar 7) mNil)))))) mBreak mNext) (mDrop (mAppend (mVar 4) (mVar 7))))))) (mRet (mTup (mCons (mCall cTuple (mCons (mVar 4) mNil)) (mCons (mCall cTuple (mCons (mBin fIx (mVar 3) (mC (.int 1))) mNil)) mNil))))))
def g__law_drawn_life : FC := trimG (sem 9 m__law_drawn_life)
def m__law_heard : MS := (mSeq (mSet 3 (mC .none)) (mSeq (mTry 3 4 "can not" (mIfX (mTst (mBin fEq (mVar 0) (mC (.int 0)))) (mCallX g_life_to g2 (mCons (mVar 2) (mCons (mVar 1) mNil))) (mCallX g_reason g2 (mCons (mVar 2) (mCons (mVar 1) mNil))))) (mRet (mVar 3))))
def g__law_heard : FC := sem 5 m__law_heard
def m__law_is_reason : MS := (mSeq (mIfS (mtOr (mtNot (mTst (mCall cIsi (mCons (mVar 2) (mCons (mTy .tuple) mNil))))) (mTst (mBin fNe (mCall cLen (mCons (mVar 2) mNil)) (mBin fMulA (mBin fIx (mVar 0) (mC (.int 0))) (mBin fIx (mVar 0) (mC (.int 2))))))) (mRet (mC (.bool false))) mNext) (mSeq (mIfS (mTst (mBin fNe (mImm (mComp (mIter (mVar 2)) (nName 3) (mtOr (mtNot (mTst (mCall cIsi (mCons (mVar 3) (mCons (mTy .int) mNil))))) (mTst (mCall cIsi (mCons (mVar 3) (mCons (mTy .bool) mNil))))) (mVar 3) [3])) (mImm (mLst mNil)))) (mRet (mC (.bool false))) mNext) (mRet (mBin fEq (mImm (mComp (mRange1 (mCall cLen (mCons (mVar 2) mNil))) (nName 4) (mTst (mBin (fInB true) (mBin fIx (mVar 2) (mVar 4)) (mCall g__law_bars (mCons (mVar 0) (mCons (mVar 1) (mCons (mVar 4) mNil)))))) (mVar 4) [4])) (mImm (mLst mNil))))))
def g__law_is_reason : FC := sem 5 m__law_is_reason
def m__law_by_hand_right : MS := (mSeq (mAsgT (gsCons (gNm (nName 0)) (gsCons (gNm (nName 1)) (gsCons (gNm (nName 2)) gsNil))) (mCons (mTup (mCons (mC (.int 4)) (mCons (mC (.int 1)) (mCons (mC (.int 3)) mNil)))) (mCons (mTup (mCons (mC (.str "blank")) mNil)) (mCons (mTup (mCons (mC (.str "torn")) mNil)) mNil)))) (mSeq (mAsgT (gsCons (gNm (nName 3)) (gsCons (gNm (nName 4)) gsNil)) (mCons (mTup (mCons (mTup (mCons (mC (.int 1)) (mCons (mVar 1) mNil))) (mCons (mVar 2) (mCons (mTup (mCons (mC (.int 0)) (mCons (mVar 1) mNil))) (mCons (mTup (mCons (mC (.int 0)) (mCons (mVar 1) mNil))) mNil))))) (mCons (mTup (mCons (mTup (mCons (mC (.int 1)) (mCons (mVar 1) mNil))) (mCons (mTup (mCons (mC (.int 2)) (mCons (mVar 1) mNil))) (mCons (mTup (mCons (mC (.int 0)) (mCons (mVar 1) mNil))) (mCons (mTup (mCons (mC (.int 0)) (mCons (mVar 1) mNil))) mNil))))) mNil))) (mSeq (mSet 5 (mMut (mLst (mCons (mCall g_can_lie (mCons (mVar 0) (mCons (mVar 3) mNil))) (mCons (mCall g_can_lie (mCons (mVar 0) (mCons (mVar 4) mNil))) (mCons (mCall g_bars (mCons (mVar 0) (mCons (mVar 3) (mCons (mC (.int 5)) mNil)))) (mCons (mCall g_bars (mCons (mVar 0) (mCons (mVar 4) (mCons (mC (.int 5)) mNil)))) (mCons (mCall g_bars (mCons (mVar 0) (mCons (mVar 3) (mCons (mC (.int 0)) mNil)))) mNil)))))))) (mSeq (mSet 6 (mMut (mLst (mCons (mC (.bool true)) (mCons (mC (.bool false)) (mCons (mTup mNil) (mCons (mTup (mCons (mC (.int 1)) mNil)) (mCons (mTup (mCons (mC (.int 0)) (mCons (mC (.int 1)) (mCons (mC (.int 2)) (mCons (mC (.int 3)) mNil))))) mNil)))))))) (mSeq (mSet 7 (mBin fAdd (mBin fMulA (mTup (mCons (mTup (mCons (mC (.str "write")) (mCons (mVar 1) mNil))) mNil)) (mC (.int 5))) (mTup (mCons (mTup (mCons (mC (.str "sync")) mNil)) (mCons (mTup (mCons (mC (.str "write")) (mCons (mVar 1) mNil))) (mCons (mTup (mCons (mC (.str "cut")) (mCons (mTup (mCons (mC (.str "torn")) mNil)) mNil))) mNil)))))) (mSeq (mSet 5 (mMut (mBinF fCat (mVar 5) (mImm (mLst (mCons (mImm (mComp (mIter (mTup (mCons (mVar 7) (mCons (mSl (mVar 7) mNo (mPart (mC (.int 5)))) (mCons (mSl (mVar 7) mNo (mPart (mC (.int 6)))) (mCons (mImm (mCallF cList (mCons (mVar 7) mNil))) (mCons (mBin fAdd (mSl (mVar 7) mNo (mPart (mNeg (mC (.int 1))))) (mTup (mCons (mTup (mCons (mC (.str "cut")) (mCons (mTup (mCons (mC (.str "old")) mNil)) mNil))) mNil))) (mCons (mTup mNil) mNil)))))))) (nName 11) mtYes (mCall g_is_life_to (mCons (mVar 0) (mCons (mVar 3) (mCons (mVar 11) mNil)))) [11])) mNil)))))) (mSeq (mDrop (mAppend (mVar 6) (mImm (mLst (mCons (mC (.bool true)) (mCons (mC (.bool false)) (mCons (mC (.bool false)) (mCons (mC (.bool false)) (mCons (mC (.bool false)) (mCons (mC (.bool false)) mNil)))))))))) (mSeq (mSet 8 (mBin fMulA (mTup (mCons (mTup (mCons (mC (.int 2)) (mCons (mVar 1) mNil))) mNil)) (mC (.int 4)))) (mSeq (mSet 5 (mMut (mBinF fCat (mVar 5) (mImm (mLst (mCons (mImm (mComp (mIter (mTup (mCons (mTup mNil) (mCons (mTup (mCons (mTup (mCons (mC (.str "sync")) mNil)) mNil)) (mCons (mTup (mCons (mTup (mCons (mC (.str "write")) (mCons (mVar 1) mNil))) mNil)) (mCons (mTup (mCons (mTup (mCons (mC (.str "cut")) (mCons (mTup mNil) mNil))) (mCons (mTup (mCons (mC (.str "wake")) mNil)) mNil))) (mCons (mTup (mCons (mTup (mCons (mC (.str "wake")) mNil)) mNil)) (mCons (mTup (mCons (mTup (mCons (mC (.str "cut")) (mCons (mTup (mCons (mC (.str "old")) mNil)) mNil))) mNil)) mNil)))))))) (nName 11) mtYes (mCall g_is_life_to (mCons (mVar 0) (mCons (mVar 8) (mCons (mVar 11) mNil)))) [11])) mNil)))))) (mSeq (mDrop (mAppend (mVar 6) (mImm (mLst (mCons (mC (.bool true)) (mCons (mC (.bool true)) (mCons (mC (.bool true)) (mCons (mC (.bool true)) (mCons (mC (.bool false)) (mCons (mC (.bool false)) mNil)))))))))) (mSeq (mSet 9 (mTup (mCons (mC (.int 0)) (mCons (mC (.int 0)) (mCons (mC (.int 0)) (mCons (mC (.int 1)) (mCons (mC (.int 1)) (mCons (mC (.int 1)) (mCons (mC (.int 1)) (mCons (mC (.int 1)) (mCons (mC (.int 0)) (mCons (mC (.int 0)) (mCons (mC (.int 0)) (mCons (mC (.int 0)) mNil)))))))))))))) (mSeq (mSet 5 (mMut (mBinF fCat (mVar 5) (mImm (mLst (mCons (mCall g_is_reason (mCons (mVar 0) (mCons (mVar 4) (mCons (mBin fAdd (mBin fAdd (mSl (mVar 9) mNo (mPart (mC (.int 5)))) (mTup (mCons (mC (.int 0)) mNil))) (mSl (mVar 9) (mPart (mC (.int 6))) mNo)) mNil)))) (mCons (mCall g_is_reason (mCons (mVar 0) (mCons (mVar 4) (mCons (mSl (mVar 9) mNo (mPart (mC (.int 11)))) mNil)))) (mCons (mCall g_is_reason (mCons (mVar 0) (mCons (mVar 3) (mCons (mVar 9) mNil)))) (mCons (mCall g_is_reason (mCons (mVar 0) (mCons (mVar 4) (mCons (mImm (mCallF cList (mCons (mVar 9) mNil))) mNil)))) mNil))))))))) (mSeq (mSet 6 (mMut (mBinF fCat (mVar 6) (mImm (mLst (mCons (mC (.bool false)) (mCons (mC (.bool false)) (mCons (mC (.bool false)) (mCons (mC (.bool false)) mNil))))))))) (mSeq (mSet 10 (mTup (mCons (mTup (mCons (mC (.int 0)) (mCons (mTup (mCons (mC (.str "put")) (mCons (mC (.str "a")) (mCons (mC (.str "x")) (mCons (mC (.int 3)) (mCons (mC (.int 2)) mNil)))))) mNil))) (mCons (mTup (mCons (mC (.int 1)) (mCons (mTup (mCons (mC (.str "drop")) (mCons (mC (.str "b")) (mCons (mC (.int 0)) (mCons (mC (.int 0)) mNil))))) mNil))) (mCons (mTup (mCons (mC (.int 0)) (mCons (mVar 1) mNil))) (mCons (mTup (mCons (mC (.int 1)) (mCons (mVar 1) mNil))) mNil)))))) (mSeq (mSet 5 (mMut (mBinF fCat (mVar 5) (mImm (mLst (mCons (mCall g_can_lie (mCons (mTup (mCons (mC (.int 4)) (mCons (mC (.int 3)) (mCons (mC (.int 2)) mNil)))) (mCons (mVar 10) mNil))) (mCons (mCall g_can_lie (mCons (mTup (mCons (mC (.int 4)) (mCons (mC (.int 1)) (mCons (mC (.int 2)) mNil)))) (mCons (mVar 10) mNil))) (mCons (mCall g_bars (mCons (mTup (mCons (mC (.int 4)) (mCons (mC (.int 1)) (mCons (mC (.int 2)) mNil)))) (mCons (mVar 10) (mCons (mC (.int 3)) mNil)))) (mCons (mCall g_can_lie (mCons (mTup (mCons (mC (.int 2)) (mCons (mC (.int 1)) (mCons (mC (.int 1)) mNil)))) (mCons (mTup (mCons (mVar 2) (mCons (mVar 2) mNil))) mNil))) (mCons (mCall g_can_lie (mCons (mTup (mCons (mC (.int 2)) (mCons (mC (.int 1)) (mCons (mC (.int 1)) mNil)))) (mCons (mTup (mCons (mTup (mCons (mC (.int 0)) (mCons (mVar 1) mNil))) (mCons (mVar 2) mNil))) mNil))) mNil)))))))))) (mSeq (mSet 6 (mMut (mBinF fCat (mVar 6) (mImm (mLst (mCons (mC (.bool true)) (mCons (mC (.bool false)) (mCons (mTup (mCons (mC (.int 1)) mNil)) (mCons (mC (.bool false)) (mCons (mC (.bool true)) mNil)))))))))) (mSeq (mSet 5 (mMut (mBinF fCat (mVar 5) (mImm (mLst (mCons (mCall g__law_heard (mCons (mC (.int 0)) (mCons (mVar 0) (mCons (mVar 4) mNil)))) (mCons (mCall g__law_heard (mCons (mC (.int 1)) (mCons (mVar 0) (mCons (mVar 3) mNil)))) (mCons (mCallK g_bars g3 (mCons (mC (.int 5)) (mCons (mCall g__law_lists (mCons (mVar 4) mNil)) (mCons (mImm (mCallF cList (mCons (mVar 0) mNil))) mNil)))) mNil)))))))) (mSeq (mSet 6 (mMut (mBinF fCat (mVar 6) (mImm (mLst (mCons (mImm (mLst (mCons (mC (.str "can not")) (mCons (mC (.bool true)) mNil)))) (mCons (mImm (mLst (mCons (mC (.str "can not")) (mCons (mC (.bool true)) mNil)))) (mCons (mTup (mCons (mC (.int 1)) mNil)) mNil)))))))) (mSeq (mDrop (mAppend (mVar 5) (mImm (mComp (mIter (mTup (mCons (mTup (mCons (mVar 0) (mCons (mVar 4) mNil))) (mCons (mTup (mCons (mTup (mCons (mC (.int 4)) (mCons (mC (.int 1)) (mCons (mC (.int 2)) mNil)))) (mCons (mVar 10) mNil))) (mCons (mTup (mCons (mTup (mCons (mC (.int 2)) (mCons (mC (.int 1)) (mCons (mC (.int 1)) mNil)))) (mCons (mTup (mCons (mVar 2) (mCons (mVar 2) mNil))) mNil))) mNil))))) (nTup (nCons (nName 11) (nCons (nName 12) nNil))) mtYes (mCall g__law_is_reason (mCons (mVar 11) (mCons (mVar 12) (mCons (mCall g__law_heard (mCons (mC (.int 1)) (mCons (mVar 11) (mCons (mVar 12) mNil)))) mNil)))) [11, 12])))) (mRet (mCall g__law_same (mCons (mVar 5) (mCons (mImm (mBinF fCat (mVar 6) (mImm (mLst (mCons (mImm (mBinF fRep (mImm (mLst (mCons (mC (.bool true)) mNil))) (mC (.int 3)))) mNil))))) mNil)))))))))))))))))))))))
def g__law_by_hand_right : FC := trimG (sem 13 m__law_by_hand_right)
def m__law_judged_right : MS := (mSeq (mSet 3 (mImm (mComp (mRange1 (mBin fMulA (mBin fIx (mVar 1) (mC (.int 0))) (mBin fIx (mVar 1) (mC (.int 2))))) (nName 7) mtYes (mCall g__law_bars (mCons (mVar 1) (mCons (mVar 2) (mCons (mVar 7) mNil)))) [7]))) (mSeq (mSet 4 (mBin (fInB false) (mTup mNil) (mVar 3))) (mSeq (mIfS (mtOr (mtNot (mTst (mCall g__law_same (mCons (mImm (mComp (mRange1 (mCall cLen (mCons (mVar 3) mNil))) (nName 7) mtYes (mCall g_bars (mCons (mVar 1) (mCons (mVar 2) (mCons (mVar 7) mNil)))) [7])) (mCons (mVar 3) mNil))))) (mtNot (mTst (mCall g__law_same (mCons (mCall g_can_lie (mCons (mCall g__law_lists (mCons (mVar 1) mNil)) (mCons (mCall g__law_lists (mCons (mVar 2) mNil)) mNil))) (mCons (mVar 4) mNil)))))) (mRet (mC (.bool false))) mNext) (mSeq (mPar 5 6 (mCons (mCall g__law_heard (mCons (mC (.int 0)) (mCons (mVar 1) (mCons (mVar 2) mNil)))) (mCons (mCall g__law_heard (mCons (mC (.int 1)) (mCons (mVar 1) (mCons (mVar 2) mNil)))) mNil))) (mSeq (mIfS (mtNot (mTst (mVar 4))) (mSeq (mIfS (mtOr (mtNot (mTst (mCall g__law_same (mCons (mVar 5) (mCons (mImm (mLst (mCons (mC (.str "can not")) (mCons (mC (.bool true)) mNil)))) mNil))))) (mtNot (mTst (mCall g__law_is_reason (mCons (mVar 1) (mCons (mVar 2) (mCons (mVar 6) mNil))))))) (mRet (mC (.bool false))) mNext) (mSeq (mSet 7 (mCall g__law_take (mCons (mVar 0) (mCons (mCall cLen (mCons (mVar 6) mNil)) mNil)))) (mSeq (mSet 8 (mCall g__law_take (mCons (mVar 0) (mCons (mBin fIx (mVar 1) (mC (.int 0))) mNil)))) (mSeq (mSet 9 (mBin fAdd (mBin fAdd (mSl (mVar 6) mNo (mPart (mVar 7))) (mTup (mCons (mVar 8) mNil))) (mSl (mVar 6) (mPart (mBin fAdd (mVar 7) (mC (.int 1)))) mNo))) (mSeq (mSet 10 (mImm (mLst (mCons (mVar 6) (mCons (mVar 9) (mCons (mSl (mVar 6) (mPart (mC (.int 1))) mNo) (mCons (mBin fAdd (mVar 6) (mSl (mVar 6) mNo (mPart (mC (.int 1))))) (mCons (mImm (mCallF cList (mCons (mVar 6) mNil))) (mCons (mC .none) mNil))))))))) (mRet (mCall g__law_same (mCons (mImm (mComp (mIter (mVar 10)) (nName 12) mtYes (mCall g_is_reason (mCons (mVar 1) (mCons (mVar 2) (mCons (mVar 12) mNil)))) [12])) (mCons (mImm (mComp (mIter (mVar 10)) (nName 12) mtYes (mCall g__law_is_reason (mCons (mVar 1) (mCons (mVar 2) (mCons (mVar 12) mNil)))) [12])) mNil))))))))) mNext) (mSeq (mIfS (mtOr (mtNot (mTst (mCall g__law_same (mCons (mVar 6) (mCons (mImm (mLst (mCons (mC (.str "can not")) (mCons (mC (.bool true)) mNil)))) mNil))))) (mtOr (mtNot (mTst (mCall g__law_same (mCons (mCall g__law_face_behind (mCons (mVar 1) (mCons (mVar 5) mNil))) (mCons (mVar 2) mNil))))) (mtOr (mTst (mBin fEq (mVar 5) (mTup mNil))) (mTst (mBin fNe (mBin fIx (mBin fIx (mVar 5) (mNeg (mC (.int 1)))) (mC (.int 0))) (mC (.str "cut"))))))) (mRet (mC (.bool false))) mNext) (mSeq (mIfS (mTst (mBin fGt (mCall cLen (mCons (mVar 5) mNil)) (mBin fAdd (mBin fAdd (mBin fMulA (mBin fAdd (mBin fIx (mVar 1) (mC (.int 2))) (mC (.int 1))) (mBin fIx (mVar 1) (mC (.int 0)))) (mBin fIx (mVar 1) (mC (.int 1)))) (mC (.int 1))))) (mRet (mC (.bool false))) mNext) (mSeq (mSet 7 (mCall g__law_take (mCons (mVar 0) (mCons (mCall cLen (mCons (mVar 5) mNil)) mNil)))) (mSeq (mSet 10 (mImm (mLst (mCons (mVar 5) (mCons (mBin fAdd (mSl (mVar 5) mNo (mPart (mVar 7))) (mSl (mVar 5) (mPart (mBin fAdd (mVar 7) (mC (.int 1)))) mNo)) (mCons (mBin fAdd (mBin fAdd (mSl (mVar 5) mNo (mPart (mVar 7))) (mTup (mCons (mTup (mCons (mC (.str "sync")) mNil)) mNil))) (mSl (mVar 5) (mPart (mVar 7)) mNo)) (mCons (mSl (mVar 5) mNo (mPart (mNeg (mC (.int 1))))) (mCons (mBin fAdd (mVar 5) (mTup (mCons (mTup (mCons (mC (.str "wake")) mNil)) mNil))) (mCons (mImm (mCallF cList (mCons (mVar 5) mNil))) (mCons (mBin fAdd (mBin fAdd (mSl (mVar 5) mNo (mPart (mVar 7))) (mTup (mCons (mTup (mCons (mC (.str "cut")) (mCons (mTup mNil) mNil))) mNil))) (mSl (mVar 5) (mPart (mVar 7)) mNo)) mNil)))))))))) (mSeq (mSet 11 (mMut (mLst mNil))) (mSeq (mFor (mIter (mVar 10)) (nName 12) (mDrop (mAppend (mVar 11) (mAnd (mCall cIsi (mCons (mVar 12) (mCons (mTy .tuple) mNil))) (mCall g__law_same (mCons (mCall g__law_face_behind (mCons (mVar 1) (mCons (mVar 12) mNil))) (mCons (mVar 2) mNil))))))) (mRet (mCall g__law_same (mCons (mImm (mComp (mIter (mVar 10)) (nName 12) mtYes (mCall g_is_life_to (mCons (mVar 1) (mCons (mVar 2) (mCons (mVar 12) mNil)))) [12])) (mCons (mVar 11) mNil)))))))))))))))
def g__law_judged_right : FC := trimG (sem 13 m__law_judged_right)
def m__law_right : MS := (mSeq (mSet 1 (mCall g__law_any_form (mCons (mVar 0) (mCons (mC (.int 5)) mNil)))) (mSeq (mFor (mRange1 (mC (.int 2))) (nName 2) (mSeq (mSet 3 (mMut (mCallF cList (mCons (mCall g__law_any_face (mCons (mVar 0) (mCons (mVar 1) mNil))) mNil)))) (mSeq (mFor (mIter (mCall g__law_pick (mCons (mVar 0) (mCons (mImm (mListRg (mBin fIx (mVar 1) (mC (.int 0))))) (mCons (mBin fMulA (mVar 2) (mBin fAdd (mC (.int 1)) (mCall g__law_take (mCons (mVar 0) (mCons (mC (.int 3)) mNil))))) mNil))))) (nName 4) (mAsgG (gSubD (mVar 3) (mVar 4)) (mTup (mCons (mCall g__law_take (mCons (mVar 0) (mCons (mBin fIx (mVar 1) (mC (.int 2))) mNil))) (mCons (mCall g__law_note (mCons (mVar 0) mNil)) mNil))))) (mIfS (mtNot (mTst (mCall g__law_judged_right (mCons (mVar 0) (mCons (mVar 1) (mCons (mCall cTuple (mCons (mVar 3) mNil)) mNil)))))) (mRet (mC (.bool false))) mNext)))) (mSeq (mSet 5 (mBin fAdd (mC (.int 4)) (mCall g__law_take (mCons (mVar 0) (mCons (mC (.int 3)) mNil))))) (mSeq (mSet 1 (mTup (mCons (mVar 5) (mCons (mBin fAdd (mC (.int 2)) (mCall g__law_take (mCons (mVar 0) (mCons (mBin fSub (mVar 5) (mC (.int 3))) mNil)))) (mCons (mCall g__law_of (mCons (mVar 0) (mCons (mImm (mLst (mCons (mC (.int 2)) (mCons (mC (.int 3)) (mCons (mC (.int 2)) (mCons (mC (.int 4)) (mCons (mC (.int 1)) (mCons (mC (.int 2)) mNil)))))))) mNil))) mNil))))) (mSeq (mAsgN (nTup (nCons (nName 6) (nCons (nName 3) nNil))) (mCall g__law_drawn_life (mCons (mVar 0) (mCons (mVar 1) (mCons (mC (.int 12)) mNil))))) (mSeq (mSet 7 (mImm (mLst (mCons (mCall g_can_lie (mCons (mVar 1) (mCons (mVar 3) mNil))) (mCons (mCall g_is_life_to (mCons (mVar 1) (mCons (mVar 3) (mCons (mVar 6) mNil)))) (mCons (mCallK g_is_life_to g3 (mCons (mVar 6) (mCons (mCall g__law_lists (mCons (mVar 3) mNil)) (mCons (mVar 1) mNil)))) mNil)))))) (mSeq (mIfS (mtOr (mtNot (mTst (mCall g__law_same (mCons (mVar 7) (mCons (mImm (mBinF fRep (mImm (mLst (mCons (mC (.bool true)) mNil))) (mC (.int 3)))) mNil))))) (mtNot (mTst (mCall g__law_judged_right (mCons (mVar 0) (mCons (mVar 1) (mCons (mVar 3) mNil))))))) (mRet (mC (.bool false))) mNext) (mSeq (mSet 8 (mCall g__law_any_face (mCons (mVar 0) (mCons (mVar 1) mNil)))) (mRet (mCall g__law_same (mCons (mCall g_is_life_to (mCons (mVar 1) (mCons (mVar 8) (mCons (mVar 6) mNil)))) (mCons (mCall g__law_same (mCons (mVar 8) (mCons (mVar 3) mNil))) mNil))))))))))))
def g__law_right : FC := trimG (sem 9 m__law_right)
def m_law : MS := (mRet (mAnd (mCall g__law_by_hand_right mNil) (mCall g__law_right (mCons (mCall g__law_box (mCons (mCall g__law_cells (mCons (mVar 0) (mCons (mC (.int 1)) mNil))) (mCons (mC (.int 0)) mNil))) mNil))))
def g_law : FC := sem 1 m_law
end K15
set_option Elab.async false
set_option linter.all false
set_option maxRecDepth 100000
set_option maxHeartbeats 4000000
set_option autoImplicit false
namespace K15
open PySem PySem.Spec PyProof.Rows L2
/-! ### sources -/
/-- mi gives the items, at stores that keep J -/
def Src (mi : MI) (δ : DEnv) (S : Sto) (items : List Wv) (J : Sto → Prop) : Prop := ∃ get, mi δ S = some ((items.length, get), S) ∧ ∀ S' i, J S' → i ≤ items.length → get S' i = some items[i]?
def rng (a b : Int) : List Int := (List.range (b - a).toNat).map fun (i : Nat) => a + (i : Int)
theorem rng_length (a b : Int) : (rng a b).length = (b - a).toNat := by unfold rng; simp
theorem mem_rng {a b x : Int} : x ∈ rng a b ↔ a ≤ x ∧ x < b := by
  unfold rng
  simp only [List.mem_map, List.mem_range]
  constructor
  · rintro ⟨i, hi, rfl⟩; omega
  · rintro ⟨h1, h2⟩; exact ⟨(x - a).toNat, by omega, by omega⟩
section
variable {a b : ME} {δ : DEnv} {S : Sto} {ds es : List PyData} {J : Sto → Prop}
theorem src_tup (h : a δ S = some (.d (.tuple ds), S)) : Src (mIter a) δ S (ds.map .d) J := by
  refine ⟨gS (.d (.tuple ds)), ?_, fun S' i _ _ => rfl⟩
  unfold mIter
  rw [h]
  rfl
theorem src_list (h : a δ S = some (.d (.list ds), S)) : Src (mIter a) δ S (ds.map .d) J := by
  refine ⟨gS (.d (.list ds)), ?_, fun S' i _ _ => rfl⟩
  unfold mIter
  rw [h]
  rfl
theorem src_scr {ns : List Int} (h : a δ S = some (.scr ns, S)) : Src (mIter a) δ S (ns.map fun i => .d (.int i)) J := by
  refine ⟨gS (.scr ns), ?_, fun S' i _ _ => rfl⟩
  unfold mIter
  rw [h]
  rfl
theorem src_ref {n : Nat} {ws : List Wv} (h : a δ S = some (.ref n, S)) (hn : S[n]? = some ws) (hJ : ∀ S', J S' → S'[n]? = some ws) : Src (mIter a) δ S ws J := by
  refine ⟨gS (.ref n), ?_, fun S' i hS _ => ?_⟩
  · unfold mIter
    rw [h, Option.bind_some]
    show (rdSq S (.ref n)).map _ = _
    have : rdSq S (.ref n) = some (false, ws) := by show (S[n]?).map _ = _; rw [hn]; rfl
    rw [this]
    rfl
  · unfold gS
    have : rdSq S' (.ref n) = some (false, ws) := by show (S'[n]?).map _ = _; rw [hJ S' hS]; rfl
    rw [this]
    rfl
theorem rng_get (lo : Int) (n : Nat) (i : Nat) (hi : i ≤ n) : gR lo n S i = some (((List.range n).map fun (k : Nat) => Wv.d (.int (lo + (k : Int))))[i]?) := by
  unfold gR
  rw [List.getElem?_map]
  by_cases h : i < n
  · rw [if_pos h, List.getElem?_range h]; rfl
  · rw [if_neg h, List.getElem?_eq_none (by simp; omega)]; rfl
theorem src_range2 {i j : Int} (h1 : a δ S = some (.d (.int i), S)) (h2 : b δ S = some (.d (.int j), S)) (hc : -(2 ^ 62) ≤ i ∧ i < 2 ^ 62 ∧ -(2 ^ 62) ≤ j ∧ j < 2 ^ 62) : Src (mRange2 a b) δ S ((rng i j).map fun x => .d (.int x)) J := by
  refine ⟨gR i (j - i).toNat, ?_, fun S' k _ hk => ?_⟩
  · unfold mRange2
    rw [h1, Option.bind_some, h2, Option.bind_some]
    show (if _ then _ else _) = _
    rw [if_pos hc, List.length_map, rng_length]
  · rw [List.length_map, rng_length] at hk
    rw [rng_get (S := S') i _ k hk]
    unfold rng
    rw [List.map_map]
    rfl
theorem src_range1 {j : Int} (h2 : b δ S = some (.d (.int j), S)) (hc : -(2 ^ 62) ≤ j ∧ j < 2 ^ 62) : Src (mRange1 b) δ S ((rng 0 j).map fun x => .d (.int x)) J := by
  refine ⟨gR 0 j.toNat, ?_, fun S' k _ hk => ?_⟩
  · unfold mRange1
    rw [h2, Option.bind_some]
    show (if _ then _ else _) = _
    rw [if_pos hc, List.length_map, rng_length, Int.sub_zero]
  · rw [List.length_map, rng_length, Int.sub_zero] at hk
    rw [rng_get (S := S') 0 _ k hk]
    unfold rng
    rw [List.map_map, Int.sub_zero]
    rfl
theorem src_str {z : Str} (h : a δ S = some (.d (.str z), S)) : Src (mIterC a) δ S (z.cps.toList.map fun c => .d (.str ⟨#[c]⟩)) J := by
  refine ⟨gC z, ?_, fun S' i _ _ => ?_⟩
  · unfold mIterC
    rw [h, List.length_map]
    rfl
  · unfold gC
    rw [List.getElem?_map]
/-- what a zip sees -/
def SeqOf (w : Wv) (ds : List PyData) (S : Sto) : Prop := ∃ t, rdSq S w = some (t, ds.map .d)
theorem seqOf_tup : SeqOf (.d (.tuple ds)) ds S := ⟨true, rfl⟩
theorem seqOf_list : SeqOf (.d (.list ds)) ds S := ⟨false, rfl⟩
theorem seqOf_ref {n : Nat} (h : S[n]? = some (ds.map .d)) : SeqOf (.ref n) ds S := ⟨false, by show (S[n]?).map _ = _; rw [h]; rfl⟩
def prs : List PyData → List PyData → List PyData := List.zipWith fun x y => .tuple [x, y]
theorem src_zip {w1 w2 : Wv} (h1 : a δ S = some (w1, S)) (h2 : b δ S = some (w2, S)) (hS : SeqOf w1 ds S ∧ SeqOf w2 es S) (hJ : ∀ S', J S' → SeqOf w1 ds S' ∧ SeqOf w2 es S') (hl : ds.length ≤ es.length) : Src (mZip a b) δ S ((prs ds es).map .d) J := by
  have len : (prs ds es).length = ds.length := by unfold prs; rw [List.length_zipWith]; omega
  refine ⟨gZ w1 w2, ?_, fun S' i hS' hi => ?_⟩
  · obtain ⟨⟨t1, e1⟩, ⟨t2, e2⟩⟩ := hS
    unfold mZip
    rw [h1, Option.bind_some, h2, Option.bind_some]
    show (rdSq S w1).bind _ = _
    rw [e1, Option.bind_some, e2, Option.bind_some, List.length_map, List.length_map, len]
  · obtain ⟨⟨t1, e1⟩, ⟨t2, e2⟩⟩ := hJ S' hS'
    rw [List.length_map, len] at hi
    unfold gZ
    rw [e1, Option.bind_some, e2, Option.bind_some]
    simp only [List.length_map, List.getElem?_map]
    by_cases h : i < ds.length
    · have h' : i < es.length := by omega
      rw [if_pos ⟨h, h'⟩]
      unfold prs
      simp [List.getElem?_zipWith, List.getElem?_eq_getElem h, List.getElem?_eq_getElem h']
    · rw [if_neg (by omega), if_pos (by omega)]
      have : (prs ds es)[i]? = none := List.getElem?_eq_none (by omega)
      rw [this]
      rfl
theorem src_enum {w : Wv} (h1 : a δ S = some (w, S)) (hr : rdL S w = some (ds.map .d)) (hJ : ∀ S', J S' → rdL S' w = some (ds.map .d)) : Src (mEnum a) δ S (ds.zipIdx.map fun p => .d (.tuple [.int (p.2 : Nat), p.1])) J := by
  refine ⟨gE w, ?_, fun S' i hS' hi => ?_⟩
  · unfold mEnum
    rw [h1, Option.bind_some]
    show (rdL S w).map _ = _
    rw [hr]
    simp
  · unfold gE
    rw [hJ S' hS', Option.bind_some]
    simp only [List.length_map, List.length_zipIdx] at hi
    simp only [List.getElem?_map, List.getElem?_zipIdx]
    by_cases h : i < ds.length
    · simp [List.getElem?_eq_getElem h]
    · simp [List.getElem?_eq_none (Nat.le_of_not_lt h)]
end
/-! ### loops -/
section
variable {α β : Type} {n : MN} {t : MT} {e : ME} {b : MS} {δ : DEnv} {S : Sto} {mi : MI} {J : Sto → Prop} {vs : List Nat}
theorem compG_inv (xs : List α) (enc : α → Wv) (get : Gt) (I : List α → List Wv → Sto → Prop) (hJ : ∀ p acc S, I p acc S → J S) (hg : ∀ S' i, J S' → i ≤ xs.length → get S' i = some ((xs.map enc)[i]?)) (hlen : xs.length < 1000000)
    (step : ∀ p x r acc S, xs = p ++ x :: r → I p acc S → ∃ l, n (enc x) = some l ∧ ((∃ S1, t (setsD δ l) S = some (false, S1) ∧ I (p ++ [x]) acc S1) ∨ (∃ S1 y S2, t (setsD δ l) S = some (true, S1) ∧ e (setsD δ l) S1 = some (y, S2) ∧ I (p ++ [x]) (acc ++ [y]) S2))) :
    ∀ (r p : List α) (acc : List Wv) (S : Sto), xs = p ++ r → acc.length ≤ p.length → I p acc S → ∃ acc' S', compG get n t e δ r.length p.length S acc = some (acc', S') ∧ I xs acc' S' := by
  intro r
  induction r with
  | nil =>
    intro p acc S hx hl h
    rw [List.append_nil] at hx
    subst hx
    refine ⟨acc, S, ?_, h⟩
    show (match get S xs.length with | some none => some (acc, S) | _ => none) = _
    rw [hg S _ (hJ _ _ _ h) (Nat.le_refl _), List.getElem?_eq_none (by simp)]
  | cons x r ih =>
    intro p acc S hx hl h
    have hpl : p.length < xs.length := by rw [hx]; simp
    have hgx : get S p.length = some (some (enc x)) := by
      rw [hg S _ (hJ _ _ _ h) (by omega), hx]
      simp
    obtain ⟨l, hn, hh⟩ := step p x r acc S hx h
    have hx2 : xs = (p ++ [x]) ++ r := by rw [hx]; simp
    have hl2 : (p ++ [x]).length = p.length + 1 := by simp
    rcases hh with ⟨S1, ht, h1⟩ | ⟨S1, y, S2, ht, he, h1⟩
    · obtain ⟨acc', S', e1, e2⟩ := ih (p ++ [x]) acc S1 hx2 (by omega) h1
      refine ⟨acc', S', ?_, e2⟩
      rw [hl2] at e1
      show (match get S p.length with | none => none | some none => some (acc, S) | some (some w) => _) = _
      rw [hgx]
      show (n (enc x)).bind _ = _
      rw [hn, Option.bind_some, ht, Option.bind_some, if_neg Bool.false_ne_true]
      exact e1
    · obtain ⟨acc', S', e1, e2⟩ := ih (p ++ [x]) (acc ++ [y]) S2 hx2 (by simp; omega) h1
      refine ⟨acc', S', ?_, e2⟩
      rw [hl2] at e1
      show (match get S p.length with | none => none | some none => some (acc, S) | some (some w) => _) = _
      rw [hgx]
      show (n (enc x)).bind _ = _
      rw [hn, Option.bind_some, ht, Option.bind_some, if_pos rfl, he, Option.bind_some, if_pos (by omega)]
      exact e1
theorem comp_inv (xs : List α) (enc : α → Wv) (I : List α → List Wv → Sto → Prop) (h : Src mi δ S (xs.map enc) J) (hJ : ∀ p acc S, I p acc S → J S) (hlen : xs.length < 1000000)
    (step : ∀ p x r acc S, xs = p ++ x :: r → I p acc S → ∃ l, n (enc x) = some l ∧ ((∃ S1, t (setsD (wipeD δ vs) l) S = some (false, S1) ∧ I (p ++ [x]) acc S1) ∨ (∃ S1 y S2, t (setsD (wipeD δ vs) l) S = some (true, S1) ∧ e (setsD (wipeD δ vs) l) S1 = some (y, S2) ∧ I (p ++ [x]) (acc ++ [y]) S2)))
    (h0 : I [] [] S) : ∃ acc' S', mComp mi n t e vs δ S = some (acc', S') ∧ I xs acc' S' := by
  obtain ⟨get, e1, hg⟩ := h
  obtain ⟨acc', S', e2, e3⟩ := compG_inv (δ := wipeD δ vs) (t := t) (e := e) (n := n) (J := J) xs enc get I hJ (fun S' i h1 h2 => hg S' i h1 (by simpa using h2)) hlen step xs [] [] S rfl (Nat.le_refl _) h0
  refine ⟨acc', S', ?_, e3⟩
  unfold mComp
  rw [e1, Option.bind_some]
  rw [List.length_map]
  exact e2
/-- nothing is changed -/
theorem comp_src (xs : List α) (enc : α → Wv) (f : α → Option β) (enc' : β → Wv) (h : Src mi δ S (xs.map enc) (fun S' => S' = S)) (hlen : xs.length < 1000000)
    (hs : ∀ x ∈ xs, ∃ l, n (enc x) = some l ∧ ((f x = none ∧ t (setsD (wipeD δ vs) l) S = some (false, S)) ∨ (∃ y, f x = some y ∧ t (setsD (wipeD δ vs) l) S = some (true, S) ∧ e (setsD (wipeD δ vs) l) S = some (enc' y, S)))) :
    mComp mi n t e vs δ S = some ((xs.filterMap f).map enc', S) := by
  obtain ⟨acc, S', e1, rfl, rfl⟩ := comp_inv (n := n) (t := t) (e := e) (vs := vs) xs enc (fun p acc S' => S' = S ∧ acc = (p.filterMap f).map enc') h (fun p acc S' h => h.1) hlen (fun p x r acc S1 hx hI => by
    obtain ⟨rfl, rfl⟩ := hI
    obtain ⟨l, hn, hh⟩ := hs x (by rw [hx]; simp)
    refine ⟨l, hn, ?_⟩
    rcases hh with ⟨hf, ht⟩ | ⟨y, hf, ht, he⟩
    · exact .inl ⟨S1, ht, rfl, by simp [hf]⟩
    · exact .inr ⟨S1, enc' y, S1, ht, he, rfl, by simp [hf]⟩) ⟨rfl, rfl⟩
  exact e1
theorem comp_map (xs : List α) (enc : α → Wv) (f : α → β) (enc' : β → Wv) (h : Src mi δ S (xs.map enc) (fun S' => S' = S)) (hlen : xs.length < 1000000)
    (hs : ∀ x ∈ xs, ∃ l, n (enc x) = some l ∧ e (setsD (wipeD δ vs) l) S = some (enc' (f x), S)) :
    mComp mi n mtYes e vs δ S = some ((xs.map f).map enc', S) := by
  have := comp_src (n := n) (t := mtYes) (e := e) (vs := vs) xs enc (fun x => some (f x)) enc' h hlen fun x hx => by
    obtain ⟨l, hn, he⟩ := hs x hx
    exact ⟨l, hn, .inr ⟨f x, rfl, rfl, he⟩⟩
  rw [this]
  congr 2
  simp
/-- a loop: it runs through, or stops -/
theorem forG_inv (xs : List α) (enc : α → Wv) (get : Gt) (I : List α → DEnv → Sto → Prop) (B : DEnv → Sto → Prop) (R : Wv → Sto → Prop) (hJ : ∀ p δ S, I p δ S → J S) (hg : ∀ S' i, J S' → i ≤ xs.length → get S' i = some ((xs.map enc)[i]?))
    (step : ∀ p x r δ S, xs = p ++ x :: r → I p δ S → ∃ l, n (enc x) = some l ∧ ((∃ δ' S', b (setsD δ l) S = some (.nx δ', S') ∧ I (p ++ [x]) δ' S') ∨ (∃ δ' S', b (setsD δ l) S = some (.bk δ', S') ∧ B δ' S') ∨ (∃ w S', b (setsD δ l) S = some (.rt w, S') ∧ R w S'))) :
    ∀ (r p : List α) (δ : DEnv) (S : Sto), xs = p ++ r → I p δ S → (∃ δ' S', forG get n b r.length p.length δ S = some (.nx δ', S') ∧ (I xs δ' S' ∨ B δ' S')) ∨ (∃ w S', forG get n b r.length p.length δ S = some (.rt w, S') ∧ R w S') := by
  intro r
  induction r with
  | nil =>
    intro p δ S hx h
    rw [List.append_nil] at hx
    subst hx
    refine .inl ⟨δ, S, ?_, .inl h⟩
    show (match get S xs.length with | some none => some (Fl.nx δ, S) | _ => none) = _
    rw [hg S _ (hJ _ _ _ h) (Nat.le_refl _), List.getElem?_eq_none (by simp)]
  | cons x r ih =>
    intro p δ S hx h
    have hpl : p.length < xs.length := by rw [hx]; simp
    have hgx : get S p.length = some (some (enc x)) := by
      rw [hg S _ (hJ _ _ _ h) (by omega), hx]
      simp
    obtain ⟨l, hn, hh⟩ := step p x r δ S hx h
    have hx2 : xs = (p ++ [x]) ++ r := by rw [hx]; simp
    have hl2 : (p ++ [x]).length = p.length + 1 := by simp
    have key : forG get n b (x :: r).length p.length δ S = (b (setsD δ l) S).bind fun p1 => match p1.1 with
      | .nx δ2 => forG get n b r.length (p.length + 1) δ2 p1.2
      | .ct δ2 => forG get n b r.length (p.length + 1) δ2 p1.2
      | .bk δ2 => some (.nx δ2, p1.2)
      | .rt w => some (.rt w, p1.2) := by
      show (match get S p.length with | none => none | some none => some (Fl.nx δ, S) | some (some w) => _) = _
      rw [hgx]
      show (n (enc x)).bind _ = _
      rw [hn, Option.bind_some]
      all_goals rfl
    rcases hh with ⟨δ', S', hb, h1⟩ | ⟨δ', S', hb, h1⟩ | ⟨w, S', hb, h1⟩
    · have := ih (p ++ [x]) δ' S' hx2 h1
      rw [hl2] at this
      rw [key, hb]
      exact this
    · refine .inl ⟨δ', S', ?_, .inr h1⟩
      rw [key, hb]
      rfl
    · refine .inr ⟨w, S', ?_, h1⟩
      rw [key, hb]
      rfl
theorem for_inv3 (xs : List α) (enc : α → Wv) (I : List α → DEnv → Sto → Prop) (B : DEnv → Sto → Prop) (R : Wv → Sto → Prop) (h : Src mi δ S (xs.map enc) J) (hJ : ∀ p δ S, I p δ S → J S)
    (step : ∀ p x r δ S, xs = p ++ x :: r → I p δ S → ∃ l, n (enc x) = some l ∧ ((∃ δ' S', b (setsD δ l) S = some (.nx δ', S') ∧ I (p ++ [x]) δ' S') ∨ (∃ δ' S', b (setsD δ l) S = some (.bk δ', S') ∧ B δ' S') ∨ (∃ w S', b (setsD δ l) S = some (.rt w, S') ∧ R w S')))
    (h0 : I [] δ S) : (∃ δ' S', mFor mi n b δ S = some (.nx δ', S') ∧ (I xs δ' S' ∨ B δ' S')) ∨ (∃ w S', mFor mi n b δ S = some (.rt w, S') ∧ R w S') := by
  obtain ⟨get, e1, hg⟩ := h
  have := forG_inv (b := b) (n := n) (J := J) xs enc get I B R hJ (fun S' i h1 h2 => hg S' i h1 (by simpa using h2)) step xs [] δ S rfl h0
  unfold mFor
  rw [e1, Option.bind_some]
  rw [List.length_map]
  exact this
theorem for_inv (xs : List α) (enc : α → Wv) (I : List α → DEnv → Sto → Prop) (h : Src mi δ S (xs.map enc) J) (hJ : ∀ p δ S, I p δ S → J S)
    (step : ∀ p x r δ S, xs = p ++ x :: r → I p δ S → ∃ l δ' S', n (enc x) = some l ∧ b (setsD δ l) S = some (.nx δ', S') ∧ I (p ++ [x]) δ' S')
    (h0 : I [] δ S) : ∃ δ' S', mFor mi n b δ S = some (.nx δ', S') ∧ I xs δ' S' := by
  rcases for_inv3 (b := b) (n := n) xs enc I (fun _ _ => False) (fun _ _ => False) h hJ (fun p x r δ S hx hI => by
    obtain ⟨l, δ', S', h1, h2, h3⟩ := step p x r δ S hx hI
    exact ⟨l, h1, .inl ⟨δ', S', h2, h3⟩⟩) h0 with ⟨δ', S', e, h | h⟩ | ⟨w, S', e, h⟩
  · exact ⟨δ', S', e, h⟩
  · exact h.elim
  · exact h.elim
end
/-! ### steps -/
section
variable {δ δ' : DEnv} {S S' S1 : Sto} {a b : MS} {c : MT} {e : ME} {w : Wv} {f : Fl}
theorem mSeq_nx (h : a δ S = some (.nx δ', S')) : mSeq a b δ S = b δ' S' := by unfold mSeq; rw [h]; rfl
theorem mSeq_rt (h : a δ S = some (.rt w, S')) : mSeq a b δ S = some (.rt w, S') := by unfold mSeq; rw [h]; rfl
theorem mIfS_t (h : c δ S = some (true, S')) : mIfS c a b δ S = a δ S' := by unfold mIfS; rw [h]; rfl
theorem mIfS_f (h : c δ S = some (false, S')) : mIfS c a b δ S = b δ S' := by unfold mIfS; rw [h]; rfl
theorem mIfS_b {p : Bool} (h : c δ S = some (p, S')) : mIfS c a b δ S = if p then a δ S' else b δ S' := by unfold mIfS; rw [h]; rfl
theorem mRet_w (h : e δ S = some (w, S')) : mRet e δ S = some (.rt w, S') := by unfold mRet; rw [h]; rfl
theorem sem_rt {n : Nat} {m : MS} {ws : List Wv} (h : m (startD n ws) S = some (.rt w, S')) : sem n m ws S = some (w, S') := by unfold sem; rw [h]; rfl
theorem mAnd_b {a b : ME} {p : Bool} {q : Prop} [Decidable q] (h : a δ S = some (.d (.bool p), S1)) (h2 : p = true → b δ S1 = some (.d (.bool (decide q)), S1)) : mAnd a b δ S = some (.d (.bool (p && decide q)), S1) := by
  unfold mAnd
  rw [h]
  cases p with
  | true => exact h2 rfl
  | false => rfl
theorem mAnd_bb {a b : ME} {p q : Bool} (h : a δ S = some (.d (.bool p), S1)) (h2 : p = true → b δ S1 = some (.d (.bool q), S1)) : mAnd a b δ S = some (.d (.bool (p && q)), S1) := by
  unfold mAnd
  rw [h]
  cases p with
  | true => exact h2 rfl
  | false => rfl
theorem mOr_bb {a b : ME} {p q : Bool} (h : a δ S = some (.d (.bool p), S1)) (h2 : p = false → b δ S1 = some (.d (.bool q), S1)) : mOr a b δ S = some (.d (.bool (p || q)), S1) := by
  unfold mOr
  rw [h]
  cases p with
  | true => rfl
  | false => exact h2 rfl
theorem mNot_b {a : ME} {p : Bool} (h : a δ S = some (.d (.bool p), S1)) : mNot a δ S = some (.d (.bool !p), S1) := by unfold mNot; rw [h]; rfl
theorem mTst_b {a : ME} {p : Bool} (h : a δ S = some (.d (.bool p), S1)) : mTst a δ S = some (p, S1) := by unfold mTst; rw [h]; rfl
theorem mtAnd_b {a b : MT} {p q : Bool} (h : a δ S = some (p, S1)) (h2 : p = true → b δ S1 = some (q, S1)) : mtAnd a b δ S = some (p && q, S1) := by
  unfold mtAnd
  rw [h]
  cases p with
  | true => exact h2 rfl
  | false => rfl
theorem mtOr_b {a b : MT} {p q : Bool} (h : a δ S = some (p, S1)) (h2 : p = false → b δ S1 = some (q, S1)) : mtOr a b δ S = some (p || q, S1) := by
  unfold mtOr
  rw [h]
  cases p with
  | true => rfl
  | false => exact h2 rfl
theorem mtNot_b {a : MT} {p : Bool} (h : a δ S = some (p, S1)) : mtNot a δ S = some (!p, S1) := by unfold mtNot; rw [h]; rfl
theorem mIf_t {a b : ME} (h : c δ S = some (true, S1)) : mIf c a b δ S = a δ S1 := by unfold mIf; rw [h]; rfl
theorem mIf_f {a b : ME} (h : c δ S = some (false, S1)) : mIf c a b δ S = b δ S1 := by unfold mIf; rw [h]; rfl
theorem mIf_b {a b : ME} {p : Bool} (h : c δ S = some (p, S1)) : mIf c a b δ S = if p then a δ S1 else b δ S1 := by unfold mIf; rw [h]; rfl
theorem mBin_v {f : F2} {a b : ME} {w1 w2 : Wv} {r : Option (Wv × Sto)} (h1 : a δ S = some (w1, S1)) (h2 : b δ S1 = some (w2, S')) (h : f w1 w2 S' = r) : mBin f a b δ S = r := by unfold mBin; rw [h1, Option.bind_some, h2, Option.bind_some]; exact h
theorem mSet_v {i : Nat} (h : e δ S = some (w, S')) : mSet i e δ S = some (.nx (δ.set i (some w)), S') := by unfold mSet; rw [h]; rfl
theorem mDrop_v (h : e δ S = some (w, S')) : mDrop e δ S = some (.nx δ, S') := by unfold mDrop; rw [h]; rfl
theorem mCons_v {r : MA} {ws : List Wv} (h1 : e δ S = some (w, S1)) (h2 : r δ S1 = some (ws, S')) : mCons e r δ S = some (w :: ws, S') := by unfold mCons; rw [h1, Option.bind_some, h2]; rfl
theorem mCall_v {f : FC} {a : MA} {ws : List Wv} (h1 : a δ S = some (ws, S1)) : mCall f a δ S = f ws S1 := by unfold mCall; rw [h1]; rfl
theorem mImm_v {f : MF} {ds : List PyData} (h : f δ S = some (ds.map .d, S')) : mImm f δ S = some (.d (.list ds), S') := by unfold mImm; rw [h, Option.bind_some, toDs_map]; rfl
theorem mMut_v {f : MF} {ws : List Wv} (h : f δ S = some (ws, S')) : mMut f δ S = some (.ref S'.length, S' ++ [ws]) := by unfold mMut; rw [h]; rfl
theorem mTup_v {a : MA} {ds : List PyData} (h : a δ S = some (ds.map .d, S')) (hl : ds.length ≤ 1000000) : mTup a δ S = some (.d (.tuple ds), S') := by unfold mTup; rw [h, Option.bind_some, toDs_map, Option.bind_some, if_pos hl]
end
/-! ### garbage -/
def OkS (S : Sto) : Prop := (S.all fun us => us.all (okR S.length)) = true
theorem trim_d {g : FC} {ws : List Wv} {S S1 T : Sto} {x : PyData} (h : g ws S = some (.d x, S1 ++ T)) (hl : S1.length = S.length) (ok : OkS S1) : trimG g ws S = some (.d x, S1) := by
  unfold trimG
  rw [h, Option.bind_some]
  have e : (S1 ++ T).take S.length = S1 := by rw [← hl, List.take_left]
  show (if S.length ≤ (S1 ++ T).length ∧ _ then _ else _) = _
  rw [e]
  rw [if_pos ⟨by rw [List.length_append]; omega, by unfold OkS at ok; rw [hl] at ok; exact ok⟩]
theorem trim_l {g : FC} {ws : List Wv} {S S1 T : Sto} {l : Nat} {ds : List PyData} (h : g ws S = some (.ref l, S1 ++ T)) (hl : S1.length = S.length) (ok : OkS S1) (hle : S.length ≤ l) (hd : (S1 ++ T)[l]? = some (ds.map .d)) : trimG g ws S = some (.d (.list ds), S1) := by
  unfold trimG
  rw [h, Option.bind_some]
  have e : (S1 ++ T).take S.length = S1 := by rw [← hl, List.take_left]
  show (if S.length ≤ (S1 ++ T).length ∧ _ then _ else _) = _
  rw [e]
  rw [if_pos ⟨by rw [List.length_append]; omega, by unfold OkS at ok; rw [hl] at ok; exact ok⟩]
  show (if S.length ≤ l then _ else _) = _
  rw [if_pos hle]
  show ((S1 ++ T)[l]?).bind _ = _
  rw [hd, Option.bind_some, toDs_map]
  rfl
theorem get_last {S : Sto} {l : List Wv} : (S ++ [l])[S.length]? = some l := by simp
theorem set_last {S : Sto} {l l' : List Wv} : (S ++ [l]).set S.length l' = S ++ [l'] := by simp
end K15
set_option Elab.async false
set_option linter.all false
set_option maxRecDepth 100000
set_option maxHeartbeats 4000000
set_option autoImplicit false
namespace K15
open PySem PySem.Spec PyProof.Rows L2
/-! ### the things of the law, plain -/
inductive Note where
  | n0 | n1 | n2 | n3 | n4 | n5
  deriving DecidableEq
abbrev CellC := Int × Note
abbrev Cell := Option CellC
abbrev Pic := List Cell
structure Fm where
  c : Nat
  d : Nat
  m : Nat
structure Fm.Ok (F : Fm) : Prop where
  c2 : 2 ≤ F.c
  c6 : F.c ≤ 6
  d1 : 1 ≤ F.d
  dc : F.d < F.c
  m1 : 1 ≤ F.m
  m4 : F.m ≤ 4
inductive Fate where
  | old | new | torn
  deriving DecidableEq
inductive Ev where
  | write (n : Note) | sync | cut (fs : List Fate) | wake | mend (k : Int) (fs : List Fate)
  deriving DecidableEq
def eN : Note → PyData
  | .n0 => .tuple [.str "blank"]
  | .n1 => .tuple [.str "put", .str "a", .str "x", .int 0, .int 0]
  | .n2 => .tuple [.str "drop", .str "b", .int 0, .int 0]
  | .n3 => .tuple [.str "put", .str "@c", .str "w7", .int 1, .int 2]
  | .n4 => .tuple [.str "drop", .str "a", .int 2, .int 0]
  | .n5 => .tuple [.str "put", .str "a", .str "x", .int 3, .int 2]
def eCC (x : CellC) : PyData := .tuple [.int x.1, eN x.2]
def torn : PyData := .tuple [.str "torn"]
def eC : Cell → PyData
  | none => torn
  | some x => eCC x
def eP (P : Pic) : PyData := .tuple (P.map eC)
def eF (F : Fm) : PyData := .tuple [.int F.c, .int F.d, .int F.m]
def eT : Fate → PyData
  | .old => .str "old"
  | .new => .str "new"
  | .torn => .str "torn"
def eTs (fs : List Fate) : PyData := .tuple (fs.map eT)
def eW (x : Int × CellC) : PyData := .tuple [.int x.1, eCC x.2]
def eE : Ev → PyData
  | .write n => .tuple [.str "write", eN n]
  | .sync => .tuple [.str "sync"]
  | .cut fs => .tuple [.str "cut", eTs fs]
  | .wake => .tuple [.str "wake"]
  | .mend k fs => .tuple [.str "mend", .int k, eTs fs]
def eL (L : List Ev) : PyData := .tuple (L.map eE)
/-- the same as a list of lists -/
def lN : Note → PyData := fun n => match eN n with
  | .tuple l => .list l
  | x => x
def lC : Cell → PyData
  | none => .list [.str "torn"]
  | some x => .list [.int x.1, lN x.2]
def lP (P : Pic) : PyData := .list (P.map lC)
def lF (F : Fm) : PyData := .list [.int F.c, .int F.d, .int F.m]
/-! ### equality of data -/
theorem eqvAll_map {α : Type} [DecidableEq α] (e : α → PyData) (h : ∀ a b, PyData.eqv (e a) (e b) = decide (a = b)) : ∀ l m : List α, PyData.eqvAll (l.map e) (m.map e) = decide (l = m)
  | [], [] => by simp [PyData.eqvAll]
  | [], _ :: _ => by simp [PyData.eqvAll]
  | _ :: _, [] => by simp [PyData.eqvAll]
  | a :: l, b :: m => by
    simp only [List.map_cons, PyData.eqvAll, h, eqvAll_map e h l m]
    by_cases h1 : a = b <;> by_cases h2 : l = m <;> simp [h1, h2]
theorem eqv_tup (xs ys : List PyData) : PyData.eqv (.tuple xs) (.tuple ys) = PyData.eqvAll xs ys := by rw [PyData.eqv]
theorem eqv_int (i j : Int) : PyData.eqv (.int i) (.int j) = decide (i = j) := by
  rw [PyData.eqv]
  by_cases h : i = j <;> simp [h]
theorem eqv_N (a b : Note) : PyData.eqv (eN a) (eN b) = decide (a = b) := by cases a <;> cases b <;> decide +kernel
theorem eqv_CC (a b : CellC) : PyData.eqv (eCC a) (eCC b) = decide (a = b) := by
  obtain ⟨i, n⟩ := a
  obtain ⟨j, m⟩ := b
  unfold eCC
  rw [eqv_tup]
  simp only [PyData.eqvAll, eqv_int, eqv_N, Bool.and_true]
  by_cases h1 : i = j <;> by_cases h2 : n = m <;> simp [h1, h2]
theorem eqv_C (a b : Cell) : PyData.eqv (eC a) (eC b) = decide (a = b) := by
  cases a with
  | none =>
    cases b with
    | none => decide +kernel
    | some y => rfl
  | some x =>
    cases b with
    | none => rfl
    | some y =>
      show PyData.eqv (eCC x) (eCC y) = _
      rw [eqv_CC]
      simp
theorem eqv_P (a b : Pic) : PyData.eqv (eP a) (eP b) = decide (a = b) := by
  unfold eP
  rw [eqv_tup]
  exact eqvAll_map eC eqv_C a b
def shp (k : Nat) (d : PyData) : Prop := d.canLay0 = true ∧ d.depth ≤ k
theorem shp.sh {k : Nat} {d : PyData} (h : shp k d) (hk : k ≤ 64 := by decide) : SeqAt.shaped d = true := by
  unfold SeqAt.shaped
  rw [h.1, Bool.true_and]
  exact decide_eq_true (Nat.le_trans h.2 hk)
theorem shp.mono {k j : Nat} {d : PyData} (h : shp k d) (hk : k ≤ j) : shp j d := ⟨h.1, Nat.le_trans h.2 hk⟩
theorem canAll : ∀ {xs : List PyData}, (∀ x ∈ xs, x.canLay0 = true) → PyData.canLayAll0 xs = true
  | [], _ => by rw [PyData.canLayAll0]
  | x :: xs, h => by
    rw [PyData.canLayAll0, h x (by simp), canAll fun y hy => h y (by simp [hy])]
    rfl
theorem depAll {k : Nat} : ∀ {xs : List PyData}, (∀ x ∈ xs, x.depth ≤ k) → PyData.depthAll xs ≤ k
  | [], _ => by rw [PyData.depthAll]; omega
  | x :: xs, h => by
    rw [PyData.depthAll]
    exact Nat.max_le.mpr ⟨h x (by simp), depAll fun y hy => h y (by simp [hy])⟩
theorem shp_tup {k : Nat} {xs : List PyData} (h : ∀ x ∈ xs, shp k x) : shp (k + 1) (.tuple xs) := ⟨by rw [PyData.canLay0]; exact canAll fun x hx => (h x hx).1, by rw [PyData.depth]; exact Nat.succ_le_succ (depAll fun x hx => (h x hx).2)⟩
theorem shp_list {k : Nat} {xs : List PyData} (h : ∀ x ∈ xs, shp k x) : shp (k + 1) (.list xs) := ⟨by rw [PyData.canLay0]; exact canAll fun x hx => (h x hx).1, by rw [PyData.depth]; exact Nat.succ_le_succ (depAll fun x hx => (h x hx).2)⟩
theorem shp_int (i : Int) : shp 0 (.int i) := ⟨by rw [PyData.canLay0], by rw [PyData.depth]; omega⟩
theorem shp_bool (i : Bool) : shp 0 (.bool i) := ⟨by rw [PyData.canLay0], by rw [PyData.depth]; omega⟩
theorem shp_none : shp 0 .none := ⟨by rw [PyData.canLay0], by rw [PyData.depth]; omega⟩
theorem shp_N (n : Note) : shp 1 (eN n) := by cases n <;> exact ⟨by decide +kernel, by decide +kernel⟩
theorem shp_torn : shp 1 torn := ⟨by decide +kernel, by decide +kernel⟩
theorem shp_CC (x : CellC) : shp 2 (eCC x) := shp_tup (k := 1) fun y hy => by
  simp only [List.mem_cons, List.not_mem_nil, or_false] at hy
  rcases hy with rfl | rfl
  · exact (shp_int _).mono (by omega)
  · exact shp_N _
theorem shp_C (x : Cell) : shp 2 (eC x) := by
  cases x with
  | none => exact shp_torn.mono (by omega)
  | some x => exact shp_CC x
theorem shp_P (P : Pic) : shp 3 (eP P) := shp_tup (k := 2) fun y hy => by
  obtain ⟨x, _, rfl⟩ := List.mem_map.mp hy
  exact shp_C x
theorem sh_int (i : Int) : SeqAt.shaped (.int i) = true := (shp_int i).sh
theorem sh_bool (i : Bool) : SeqAt.shaped (.bool i) = true := (shp_bool i).sh
theorem sh_N (n : Note) : SeqAt.shaped (eN n) = true := (shp_N n).sh
theorem sh_C (x : Cell) : SeqAt.shaped (eC x) = true := (shp_C x).sh
theorem sh_P (x : Pic) : SeqAt.shaped (eP x) = true := (shp_P x).sh
section
variable {S : Sto}
theorem fEq_int (i j : Int) : fEq (.d (.int i)) (.d (.int j)) S = some (.d (.bool (decide (i = j))), S) := by
  show (if (SeqAt.shaped (.int i) && SeqAt.shaped (.int j)) = true then some (Wv.d (.bool (PyData.eqv (.int i) (.int j))), S) else none) = _
  rw [sh_int, sh_int, if_pos (show (true && true) = true from rfl), eqv_int]
theorem fNe_int (i j : Int) : fNe (.d (.int i)) (.d (.int j)) S = some (.d (.bool (!decide (i = j))), S) := by
  show (if (SeqAt.shaped (.int i) && SeqAt.shaped (.int j)) = true then some (Wv.d (.bool (!PyData.eqv (.int i) (.int j))), S) else none) = _
  rw [sh_int, sh_int, if_pos (show (true && true) = true from rfl), eqv_int]
theorem fEq_of {x y : PyData} {b : Bool} (hx : SeqAt.shaped x = true) (hy : SeqAt.shaped y = true) (h : PyData.eqv x y = b) : fEq (.d x) (.d y) S = some (.d (.bool b), S) := by
  show (if (SeqAt.shaped x && SeqAt.shaped y) = true then some (Wv.d (.bool (PyData.eqv x y)), S) else none) = _
  rw [hx, hy, if_pos (show (true && true) = true from rfl), h]
theorem fNe_of {x y : PyData} {b : Bool} (hx : SeqAt.shaped x = true) (hy : SeqAt.shaped y = true) (h : PyData.eqv x y = b) : fNe (.d x) (.d y) S = some (.d (.bool !b), S) := by
  show (if (SeqAt.shaped x && SeqAt.shaped y) = true then some (Wv.d (.bool (!PyData.eqv x y)), S) else none) = _
  rw [hx, hy, if_pos (show (true && true) = true from rfl), h]
theorem fEq_C (a b : Cell) : fEq (.d (eC a)) (.d (eC b)) S = some (.d (.bool (decide (a = b))), S) := fEq_of (sh_C a) (sh_C b) (eqv_C a b)
theorem fNe_C (a b : Cell) : fNe (.d (eC a)) (.d (eC b)) S = some (.d (.bool !decide (a = b)), S) := fNe_of (sh_C a) (sh_C b) (eqv_C a b)
theorem fNe_torn (a : Cell) : fNe (.d (eC a)) (.d (.tuple [.str "torn"])) S = some (.d (.bool !decide (a = none)), S) := fNe_C a none
theorem fEq_torn (a : Cell) : fEq (.d (eC a)) (.d (.tuple [.str "torn"])) S = some (.d (.bool (decide (a = none))), S) := fEq_C a none
end
end K15
set_option Elab.async false
set_option linter.all false
set_option maxRecDepth 100000
set_option maxHeartbeats 4000000
set_option autoImplicit false
namespace K15
open PySem PySem.Spec PyProof.Rows L2
section
variable {S S1 : Sto} {δ : DEnv}
theorem mChain_b {f g : F2} {a b c : ME} {w1 w2 w3 : Wv} {p q : Bool} (h1 : a δ S = some (w1, S)) (h2 : b δ S = some (w2, S)) (h : f w1 w2 S = some (.d (.bool p), S)) (h3 : c δ S = some (w3, S)) (h4 : g w2 w3 S = some (.d (.bool q), S)) :
    mChain f g a b c δ S = some (.d (.bool (p && q)), S) := by
  unfold mChain
  rw [h1, Option.bind_some, h2, Option.bind_some, h, Option.bind_some]
  cases p with
  | true => show (c δ S).bind _ = _; rw [h3]; exact h4
  | false => rfl
theorem v_is_number (i : Int) : g_is_number [.d (.int i)] S = some (.d (.bool true), S) := rfl
theorem v_is_from (i l : Int) : g_is_from [.d (.int i), .d (.int l)] S = some (.d (.bool (decide (l ≤ i))), S) := rfl
theorem v_is_within (i l m : Int) : g_is_within [.d (.int i), .d (.int l), .d (.int m)] S = some (.d (.bool (decide (l ≤ i) && decide (i ≤ m))), S) :=
  sem_rt (mRet_w (mAnd_bb (p := true) rfl fun _ => mChain_b rfl rfl rfl rfl rfl))
theorem v_is_long (ds : List PyData) (n : Int) : g_is_long [.d (.tuple ds), .d (.int n)] S = some (.d (.bool (decide ((ds.length : Int) = n))), S) :=
  sem_rt (mRet_w (mAnd_bb (p := true) rfl fun _ => mBin_v rfl rfl (fEq_int _ _)))
/-- only a tuple is long -/
def isT : PyData → Bool
  | .tuple _ => true
  | _ => false
theorem v_is_record (n : Note) : g_is_record [.d (eN n)] S = some (.d (.bool true), S) := by cases n <;> kernel_rfl
/-! tupled -/
theorem cTuple_list (ds : List PyData) : cTuple [.d (.list ds)] S = some (.d (.tuple ds), S) := by
  show (some (ds.map Wv.d)).bind (fun ws => (toDs ws).map fun ds => (Wv.d (.tuple ds), S)) = _
  rw [Option.bind_some, toDs_map]
  rfl
theorem cTuple_ref {n : Nat} {ds : List PyData} (h : S[n]? = some (ds.map .d)) : cTuple [.ref n] S = some (.d (.tuple ds), S) := by
  show (S[n]?).bind (fun ws => (toDs ws).map fun ds => (Wv.d (.tuple ds), S)) = _
  rw [h, Option.bind_some, toDs_map]
  rfl
theorem tup_leaf (g : FC) (x : PyData) (h : isiAny (.d x) [.list, .tuple] = some false) : sem 2 (m_tupled g) [.d x] S = some (.d x, S) := by
  refine sem_rt (mRet_w ?_)
  refine (mIf_f (S1 := S) (mTst_b ?_)).trans rfl
  show (isiAny (.d x) [.list, .tuple]).map _ = _
  rw [h]
  rfl
theorem take_snoc {α : Type} {l : List α} {n : Nat} {x : α} (h : l[n]? = some x) : l.take (n + 1) = l.take n ++ [x] := by
  rw [List.take_add_one, h]
  rfl
theorem tup_node (g : FC) (x0 : PyData) (ds es : List PyData) (h0 : x0 = .tuple ds ∨ x0 = .list ds) (hlen : ds.length < 1000000) (hl : es.length = ds.length) (h : ∀ (i : Nat) (x y : PyData), ds[i]? = some x → es[i]? = some y → g [.d x] S = some (.d y, S)) :
    sem 2 (m_tupled g) [.d x0] S = some (.d (.tuple es), S) := by
  refine sem_rt (mRet_w ?_)
  have key : mComp (mIter (mVar 0)) (nName 1) mtYes (mCall g (mCons (mVar 1) mNil)) [1] [some (.d x0), none] S = some (es.map .d, S) := by
    obtain ⟨acc, S', key, rfl, rfl⟩ : ∃ acc S', mComp (mIter (mVar 0)) (nName 1) mtYes (mCall g (mCons (mVar 1) mNil)) [1] [some (.d x0), none] S = some (acc, S') ∧ S' = S ∧ acc = (es.map .d).take ds.length := by
      refine comp_inv (J := fun S' => S' = S) ds .d (fun p acc S' => S' = S ∧ acc = (es.map .d).take p.length) ?_ (fun p acc S' h => h.1) hlen ?_ ⟨rfl, rfl⟩
      · rcases h0 with rfl | rfl
        · exact src_tup rfl
        · exact src_list rfl
      · rintro p x r acc S1 hx ⟨rfl, rfl⟩
        refine ⟨_, rfl, .inr ⟨S1, ?_⟩⟩
        have hp : p.length < ds.length := by rw [hx]; simp
        have e1 : ds[p.length]? = some x := by rw [hx]; simp
        have e2 : es[p.length]? = some es[p.length] := List.getElem?_eq_getElem (by omega)
        refine ⟨.d es[p.length], S1, rfl, h _ _ _ e1 e2, rfl, ?_⟩
        rw [List.length_append, List.length_singleton]
        exact (take_snoc (by rw [List.getElem?_map, e2]; rfl)).symm
    rw [key, List.take_of_length_le (by simp; omega)]
  refine (mIf_t (S1 := S) (mTst_b (p := true) ?_)).trans ?_
  · rcases h0 with rfl | rfl <;> rfl
  · exact (mCall_v (mCons_v (mImm_v key) rfl)).trans (cTuple_list es)
theorem gR_succ (k : Nat) : gR_tupled (k + 1) = sem 2 (m_tupled (gR_tupled k)) := rfl
theorem tupR (k : Nat) (x0 y0 : PyData) (ds es : List PyData) (h0 : x0 = .tuple ds ∨ x0 = .list ds) (hy : y0 = .tuple es) (hlen : ds.length < 1000000) (hl : es.length = ds.length) (h : ∀ (i : Nat) (x y : PyData), ds[i]? = some x → es[i]? = some y → gR_tupled k [.d x] S = some (.d y, S)) :
    gR_tupled (k + 1) [.d x0] S = some (.d y0, S) := by
  rw [gR_succ, hy]
  exact tup_node _ _ ds es h0 hlen hl h
theorem tupR_note (k : Nat) (n : Note) : gR_tupled (k + 2) [.d (eN n)] S = some (.d (eN n), S) := by
  cases n <;> kernel_rfl
theorem tupR_noteL (k : Nat) (n : Note) : gR_tupled (k + 2) [.d (lN n)] S = some (.d (eN n), S) := by
  cases n <;> kernel_rfl
theorem tupR_int (k : Nat) (i : Int) : gR_tupled (k + 1) [.d (.int i)] S = some (.d (.int i), S) := by
  rw [gR_succ]
  exact tup_leaf _ _ rfl
theorem tupR_C (k : Nat) (x : Cell) : gR_tupled (k + 3) [.d (eC x)] S = some (.d (eC x), S) := by
  cases x with
  | none => kernel_rfl
  | some x =>
    refine tupR (k + 2) _ _ [.int x.1, eN x.2] [.int x.1, eN x.2] (.inl rfl) rfl (by simp) rfl fun i a b h1 h2 => ?_
    match i with
    | 0 => cases h1; cases h2; exact tupR_int (k + 1) _
    | 1 => cases h1; cases h2; exact tupR_note k _
    | i + 2 => cases h1
theorem tupR_CL (k : Nat) (x : Cell) : gR_tupled (k + 3) [.d (lC x)] S = some (.d (eC x), S) := by
  cases x with
  | none => kernel_rfl
  | some x =>
    refine tupR (k + 2) _ _ [.int x.1, lN x.2] [.int x.1, eN x.2] (.inr rfl) rfl (by simp) rfl fun i a b h1 h2 => ?_
    match i with
    | 0 => cases h1; cases h2; exact tupR_int (k + 1) _
    | 1 => cases h1; cases h2; exact tupR_noteL k _
    | i + 2 => cases h1
theorem g_tupled_eq : g_tupled = gR_tupled 12 := rfl
theorem v_tupled_P (P : Pic) (hl : P.length < 1000) : g_tupled [.d (eP P)] S = some (.d (eP P), S) := by
  rw [g_tupled_eq]
  refine tupR 11 _ _ (P.map eC) (P.map eC) (.inl rfl) rfl (by simp; omega) rfl fun i a b h1 h2 => ?_
  rw [h1] at h2
  cases h2
  rw [List.getElem?_map] at h1
  cases e : P[i]? with
  | none => rw [e] at h1; cases h1
  | some x => rw [e] at h1; cases h1; exact tupR_C 8 x
theorem v_tupled_PL (P : Pic) (hl : P.length < 1000) : g_tupled [.d (lP P)] S = some (.d (eP P), S) := by
  rw [g_tupled_eq]
  refine tupR 11 _ _ (P.map lC) (P.map eC) (.inr rfl) rfl (by simp; omega) (by simp) fun i a b h1 h2 => ?_
  rw [List.getElem?_map] at h1 h2
  cases e : P[i]? with
  | none => rw [e] at h1; cases h1
  | some x => rw [e] at h1 h2; cases h1; cases h2; exact tupR_CL 8 x
theorem v_tupled_F (F : Fm) : g_tupled [.d (eF F)] S = some (.d (eF F), S) := by
  rw [g_tupled_eq]
  refine tupR 11 _ _ [.int F.c, .int F.d, .int F.m] [.int F.c, .int F.d, .int F.m] (.inl rfl) rfl (by simp) rfl fun i a b h1 h2 => ?_
  match i with
  | 0 => cases h1; cases h2; exact tupR_int 10 _
  | 1 => cases h1; cases h2; exact tupR_int 10 _
  | 2 => cases h1; cases h2; exact tupR_int 10 _
  | i + 3 => cases h1
theorem v_tupled_FL (F : Fm) : g_tupled [.d (lF F)] S = some (.d (eF F), S) := by
  rw [g_tupled_eq]
  refine tupR 11 _ _ [.int F.c, .int F.d, .int F.m] [.int F.c, .int F.d, .int F.m] (.inr rfl) rfl (by simp) rfl fun i a b h1 h2 => ?_
  match i with
  | 0 => cases h1; cases h2; exact tupR_int 10 _
  | 1 => cases h1; cases h2; exact tupR_int 10 _
  | 2 => cases h1; cases h2; exact tupR_int 10 _
  | i + 3 => cases h1
end
end K15
set_option Elab.async false
set_option linter.all false
set_option maxRecDepth 100000
set_option maxHeartbeats 4000000
set_option autoImplicit false
namespace K15
open PySem PySem.Spec PyProof.Rows L2
section
variable {S S1 : Sto} {δ δ' : DEnv}
theorem cl {f : FC} {a : MA} {ws : List Wv} {r : Option (Wv × Sto)} (h1 : a δ S = some (ws, S1)) (h : f ws S1 = r) : mCall f a δ S = r := (mCall_v h1).trans h
theorem guard_f {c : MT} {a b : MS} {p : Bool} (h : c δ S = some (p, S)) (hp : p = false) : mSeq (mIfS c a mNext) b δ S = b δ S := by
  subst hp
  unfold mSeq
  rw [mIfS_f h]
  rfl
theorem guard_t {c : MT} {a b : MS} {p : Bool} {w : Wv} {S' : Sto} (h : c δ S = some (p, S)) (hp : p = true) (ha : a δ S = some (.rt w, S')) : mSeq (mIfS c a mNext) b δ S = some (.rt w, S') := by
  subst hp
  unfold mSeq
  rw [mIfS_t h, ha]
  rfl
theorem seq {a b : MS} {r : Option (Fl × Sto)} {S' : Sto} (h : a δ S = some (.nx δ', S')) (h2 : b δ' S' = r) : mSeq a b δ S = r := (mSeq_nx h).trans h2
/-! ### plain functions -/
end
def Fm.t (F : Fm) : Int := F.c * F.m
def idx (F : Fm) (n : Int) : Nat := (n % F.c).toNat
def cellAt (F : Fm) (P : Pic) (n : Int) : Cell := (P[idx F n]?).getD none
def mark (F : Fm) (n : Int) : Int := n / F.c % F.m
def shows (F : Fm) (P : Pic) (n : Int) : Bool := match cellAt F P n with
  | none => false
  | some x => decide (x.1 = mark F n)
structure PicOk (F : Fm) (P : Pic) : Prop where
  len : P.length = F.c
  lap : ∀ x ∈ P, ∀ y, x = some y → 0 ≤ y.1 ∧ y.1 < F.m
theorem Fm.Ok.tle {F : Fm} (h : F.Ok) : 2 ≤ F.t ∧ F.t ≤ 24 := by
  obtain ⟨h1, h2, h3, h4, h5, h6⟩ := h
  unfold Fm.t
  constructor
  · have : (2 : Int) * 1 ≤ F.c * F.m := Int.mul_le_mul (by omega) (by omega) (by omega) (by omega)
    omega
  · have : (F.c : Int) * F.m ≤ 6 * 4 := Int.mul_le_mul (by omega) (by omega) (by omega) (by omega)
    omega
theorem idx_lt {F : Fm} (h : F.Ok) (n : Int) : idx F n < F.c := by
  have := h.c2
  have h1 : 0 ≤ n % (F.c : Int) := Int.emod_nonneg _ (by omega)
  have h2 : n % (F.c : Int) < F.c := Int.emod_lt_of_pos _ (by omega)
  unfold idx
  omega
theorem cellAt_get {F : Fm} {P : Pic} (h : F.Ok) (hp : P.length = F.c) (n : Int) : P[idx F n]? = some (cellAt F P n) := by
  unfold cellAt
  rw [List.getElem?_eq_getElem (by rw [hp]; exact idx_lt h n)]
  rfl
section
variable {S S1 : Sto} {δ δ' : DEnv} {F : Fm} {P : Pic}
theorem fMod_v (n : Int) {c : Nat} (hc : 1 ≤ c) : fMod (.d (.int n)) (.d (.int c)) S = some (.d (.int (n % c)), S) := by
  show (if (c : Int) ≠ 0 then some (Wv.d (.int (n.fmod c)), S) else none) = _
  rw [if_pos (by omega), Int.fmod_eq_emod_of_nonneg _ (by omega)]
theorem fModI_v (n : Int) {c : Int} (hc : 0 < c) : fMod (.d (.int n)) (.d (.int c)) S = some (.d (.int (n % c)), S) := by
  show (if (c : Int) ≠ 0 then some (Wv.d (.int (n.fmod c)), S) else none) = _
  rw [if_pos (by omega), Int.fmod_eq_emod_of_nonneg _ (by omega)]
theorem fDiv_v (n : Int) {c : Nat} (hc : 1 ≤ c) (h2 : c < 1000) : fDiv (.d (.int n)) (.d (.int c)) S = some (.d (.int (n / c)), S) := by
  show (if (c : Int) ≠ 0 ∧ (c : Int).natAbs < 1073741824 then some (Wv.d (.int (n.fdiv c)), S) else none) = _
  rw [if_pos (by omega), Int.fdiv_eq_ediv_of_nonneg _ (by omega)]
theorem fMulA_v (i j : Int) (h : (-(2 ^ 64) < i ∧ i < 2 ^ 64) ∨ (-(2 ^ 64) < j ∧ j < 2 ^ 64)) : fMulA (.d (.int i)) (.d (.int j)) S = some (.d (.int (i * j)), S) := by
  show (if _ then some (Wv.d (.int (i * j)), S) else none) = _
  rw [if_pos h]
theorem turn_v {a b : ME} (h : F.Ok) (h1 : a δ S = some (.d (.int F.c), S)) (h2 : b δ S = some (.d (.int F.m), S)) : mBin fMulA a b δ S = some (.d (.int F.t), S) :=
  mBin_v h1 h2 (fMulA_v _ _ (.inl (by have := h.c6; omega)))
theorem atI_nat {α : Type} {l : List α} {i : Int} {k : Nat} {x : α} (hi : i = k) (h : l[k]? = some x) : atI l i = some x := by
  subst hi
  have hk := (List.getElem?_eq_some_iff.mp h).1
  unfold atI ixN
  rw [if_pos (by omega), if_pos (by omega)]
  show l[((k : Int)).toNat]? = _
  rw [Int.toNat_natCast]
  exact h
theorem pic_at (h : F.Ok) (hp : P.length = F.c) (n : Int) : fIx (.d (eP P)) (.d (.int (n % F.c))) S = some (.d (eC (cellAt F P n)), S) := by
  have h1 : 0 ≤ n % (F.c : Int) := Int.emod_nonneg _ (by have := h.c2; omega)
  have e : atI (P.map eC) (n % F.c) = some (eC (cellAt F P n)) := atI_nat (k := idx F n) (by unfold idx; omega) (by rw [List.getElem?_map, cellAt_get h hp]; rfl)
  show (atI (P.map eC) (n % F.c)).map _ = _
  rw [e]
  rfl
theorem v_is_shape (h : F.Ok) : g_is_shape [.d (eF F)] S = some (.d (.bool true), S) := by
  obtain ⟨h1, h2, h3, h4, h5, h6⟩ := h
  refine sem_rt ((guard_f (p := (!decide ((3 : Int) = 3)) || ((!decide ((2 : Int) ≤ F.c)) || !(decide ((1 : Int) ≤ F.d) && decide ((F.d : Int) ≤ F.c - 1)))) (mtOr_b (mtNot_b (mTst_b (cl rfl (v_is_long _ _)))) fun _ => mtOr_b (mtNot_b (mTst_b (cl rfl (v_is_from _ _)))) fun _ => mtNot_b (mTst_b (cl rfl (v_is_within _ _ _)))) ?_).trans ?_)
  · have a1 : (2 : Int) ≤ F.c := by omega
    have a2 : (1 : Int) ≤ F.d := by omega
    have a3 : (F.d : Int) ≤ F.c - 1 := by omega
    simp [a1, a2, a3]
  · refine mRet_w ((cl rfl (v_is_from _ _)).trans ?_)
    have a1 : (1 : Int) ≤ F.m := by omega
    rw [decide_eq_true a1]
theorem v_sure_shape_of {x : PyData} (h : F.Ok) (hx : ∀ S, g_tupled [.d x] S = some (.d (eF F), S)) : g_sure_shape [.d x] S = some (.d (eF F), S) :=
  sem_rt (seq (mSet_v (cl rfl (hx S))) ((guard_f (p := !true) (mtNot_b (mTst_b (cl rfl (v_is_shape h)))) rfl).trans (mRet_w rfl)))
theorem v_sure_shape (h : F.Ok) : g_sure_shape [.d (eF F)] S = some (.d (eF F), S) := v_sure_shape_of h fun _ => v_tupled_F F
theorem v_sure_shapeL (h : F.Ok) : g_sure_shape [.d (lF F)] S = some (.d (eF F), S) := v_sure_shape_of h fun _ => v_tupled_FL F
theorem v_mark_in (h : F.Ok) (n : Int) : g_mark_in [.d (eF F), .d (.int n)] S = some (.d (.int (mark F n)), S) :=
  sem_rt (mRet_w (mBin_v (mBin_v rfl rfl (fDiv_v n (c := F.c) (by have := h.c2; omega) (by have := h.c6; omega))) rfl (fMod_v _ (c := F.m) h.m1)))
theorem v_place_in (h : F.Ok) (n : Int) : g_place_in [.d (eF F), .d (.int n)] S = some (.d (.int (n % F.t)), S) :=
  sem_rt (mRet_w (mBin_v rfl (turn_v h rfl rfl) (fModI_v _ (by have := h.tle; omega))))
theorem v_is_told_cell (x : Cell) (hx : ∀ y, x = some y → 0 ≤ y.1) : g_is_told_cell [.d (eC x)] S = some (.d (.bool true), S) := by
  refine (sem_rt (mRet_w (mOr_bb (p := decide (x = none)) (q := true) (mBin_v rfl rfl (fEq_torn x)) fun hh => ?_))).trans ?_
  · cases x with
    | none => simp at hh
    | some y =>
      refine (mAnd_bb (p := true) (q := true) ((cl rfl (v_is_long _ _)).trans rfl) fun _ => ?_).trans rfl
      refine (mAnd_bb (p := true) (q := true) ((cl rfl (v_is_from _ _)).trans ?_) fun _ => ?_).trans rfl
      · rw [decide_eq_true (hx y rfl)]
      · exact cl rfl (v_is_record _)
  · simp
theorem v_is_cell_in (x : Cell) (hx : ∀ y, x = some y → 0 ≤ y.1 ∧ y.1 < F.m) : g_is_cell_in [.d (eF F), .d (eC x)] S = some (.d (.bool true), S) := by
  refine (sem_rt (mRet_w (mAnd_bb (p := true) (q := true) (cl rfl (v_is_told_cell x fun y hy => (hx y hy).1)) fun _ => (mOr_bb (p := decide (x = none)) (q := true) (mBin_v rfl rfl (fEq_torn x)) fun hh => ?_).trans ?_))).trans rfl
  · cases x with
    | none => simp at hh
    | some y =>
      refine (mBin_v (w1 := .d (.int y.1)) (w2 := .d (.int F.m)) rfl rfl rfl).trans ?_
      show some (Wv.d (.bool (decide (y.1 < F.m))), S) = _
      rw [decide_eq_true (hx y rfl).2]
  · simp
theorem toBls_map : ∀ bs : List Bool, toBls (bs.map fun b => .d (.bool b)) = some bs
  | [] => rfl
  | b :: bs => by
    show (toBls (bs.map fun b => .d (.bool b))).map (b :: ·) = _
    rw [toBls_map bs]
    rfl
theorem cAll_list (bs : List Bool) : cAll [.d (.list (bs.map .bool))] S = some (.d (.bool (bs.all id)), S) := by
  show (some ((bs.map PyData.bool).map Wv.d)).bind (fun ws => (toBls ws).map fun bs => (Wv.d (.bool (bs.all id)), S)) = _
  rw [Option.bind_some, List.map_map]
  show (toBls (bs.map fun b => .d (.bool b))).map _ = _
  rw [toBls_map]
  rfl
/-- all([.. for x in ..]) -/
theorem all_v {α : Type} {mi : MI} {n : MN} {e : ME} {vs : List Nat} (xs : List α) (enc : α → Wv) (f : α → Bool) (h : Src mi δ S (xs.map enc) (fun S' => S' = S)) (hlen : xs.length < 1000000)
    (hs : ∀ x ∈ xs, ∃ l, n (enc x) = some l ∧ e (setsD (wipeD δ vs) l) S = some (.d (.bool (f x)), S)) : mCall cAll (mCons (mImm (mComp mi n mtYes e vs)) mNil) δ S = some (.d (.bool (xs.all f)), S) := by
  have key := comp_map (n := n) (e := e) (vs := vs) xs enc f (fun b => .d (.bool b)) h hlen hs
  have e1 : (xs.map f).map (fun b => Wv.d (.bool b)) = ((xs.map f).map PyData.bool).map Wv.d := by simp
  rw [e1] at key
  refine (mCall_v (mCons_v (mImm_v key) rfl)).trans ((cAll_list _).trans ?_)
  rw [List.all_map]
  rfl
theorem v_is_picture_in (hp : PicOk F P) (h : F.Ok) : g_is_picture_in [.d (eF F), .d (eP P)] S = some (.d (.bool true), S) := by
  have h6 := h.c6
  have hl := hp.len
  refine (sem_rt (mRet_w (mAnd_bb (p := decide (((P.map eC).length : Int) = F.c)) (q := true) (cl rfl (v_is_long (P.map eC) _)) fun _ => ?_))).trans ?_
  · refine (all_v P (fun x => .d (eC x)) (fun _ => true) ?_ (by omega) fun x hx => ⟨_, rfl, cl rfl (v_is_cell_in x (hp.lap x hx))⟩).trans ?_
    · have := src_tup (a := mVar 1) (δ := [some (.d (eF F)), some (.d (eP P)), none]) (S := S) (ds := P.map eC) (J := fun S' => S' = S) rfl
      rw [List.map_map] at this
      exact this
    · simp
  · simp [hl]
theorem v_sure_picture_of {x : PyData} (h : F.Ok) (hp : PicOk F P) (hx : ∀ S, g_tupled [.d x] S = some (.d (eP P), S)) : g_sure_picture [.d (eF F), .d x] S = some (.d (eP P), S) :=
  sem_rt (seq (mSet_v (cl rfl (hx S))) ((guard_f (p := !true) (mtNot_b (mTst_b (cl rfl (v_is_picture_in hp h)))) rfl).trans (mRet_w rfl)))
theorem v_sure_both (h : F.Ok) (hp : PicOk F P) : g_sure_both [.d (eF F), .d (eP P)] S = some (.d (.tuple [eF F, eP P]), S) :=
  sem_rt (seq (mSet_v (cl rfl (v_sure_shape h))) (mRet_w (mTup_v (ds := [eF F, eP P]) (mCons_v rfl (mCons_v (cl rfl (v_sure_picture_of h hp fun _ => v_tupled_P P (by have := hp.len; have := h.c6; omega))) rfl)) (by simp))))
theorem v_sure_bothL (h : F.Ok) (hp : PicOk F P) : g_sure_both [.d (lF F), .d (lP P)] S = some (.d (.tuple [eF F, eP P]), S) :=
  sem_rt (seq (mSet_v (cl rfl (v_sure_shapeL h))) (mRet_w (mTup_v (ds := [eF F, eP P]) (mCons_v rfl (mCons_v (cl rfl (v_sure_picture_of h hp fun _ => v_tupled_PL P (by have := hp.len; have := h.c6; omega))) rfl)) (by simp))))
theorem v_sure_both2 (h : F.Ok) (hp : PicOk F P) : g_sure_both [.d (eF F), .d (lP P)] S = some (.d (.tuple [eF F, eP P]), S) :=
  sem_rt (seq (mSet_v (cl rfl (v_sure_shape h))) (mRet_w (mTup_v (ds := [eF F, eP P]) (mCons_v rfl (mCons_v (cl rfl (v_sure_picture_of h hp fun _ => v_tupled_PL P (by have := hp.len; have := h.c6; omega))) rfl)) (by simp))))
theorem v_sure_place (h : F.Ok) (n : Int) (h0 : 0 ≤ n) (h1 : n < F.t) : g_sure_place [.d (eF F), .d (.int n)] S = some (.d (.int n), S) := by
  refine sem_rt ((guard_f (p := !(decide ((0 : Int) ≤ n) && decide (n ≤ F.t - 1))) (mtNot_b (mTst_b (cl (ws := [.d (.int n), .d (.int 0), .d (.int (F.t - 1))]) (mCons_v rfl (mCons_v rfl (mCons_v (mBin_v (turn_v h rfl rfl) rfl rfl) rfl))) (v_is_within _ _ _)))) ?_).trans (mRet_w rfl))
  have h2 : n ≤ F.t - 1 := by omega
  simp [h0, h2]
theorem v_shows_in (h : F.Ok) (hp : P.length = F.c) (n : Int) : g_shows_in [.d (eF F), .d (eP P), .d (.int n)] S = some (.d (.bool (shows F P n)), S) := by
  refine sem_rt (seq (mSet_v (mBin_v rfl (mBin_v rfl rfl (fMod_v n (c := F.c) (by have := h.c2; omega))) (pic_at h hp n))) (mRet_w ?_))
  refine (mAnd_bb (p := !decide (cellAt F P n = none)) (q := shows F P n) (mBin_v rfl rfl (fNe_torn _)) fun hh => ?_).trans ?_
  · unfold shows
    cases e : cellAt F P n with
    | none => rw [e] at hh; simp at hh
    | some x =>
      refine mBin_v (w1 := .d (.int x.1)) ?_ (cl rfl (v_mark_in h n)) (fEq_int _ _)
      rfl
  · unfold shows
    cases e : cellAt F P n <;> simp
end
end K15
set_option Elab.async false
set_option linter.all false
set_option maxRecDepth 100000
set_option maxHeartbeats 4000000
set_option autoImplicit false
namespace K15
open PySem PySem.Spec PyProof.Rows L2
def put (P : Pic) (k : Int) (x : Cell) : Pic := P.set k.toNat x
def fall1 (P : Pic) (p : (Int × CellC) × Fate) : Pic := match p.2 with
  | .old => P
  | .new => put P p.1.1 (some p.1.2)
  | .torn => put P p.1.1 none
def fallN (P : Pic) (l : List ((Int × CellC) × Fate)) : Pic := l.foldl fall1 P
def fall (P : Pic) (ws : List (Int × CellC)) (fs : List Fate) : Pic := fallN P (ws.zip fs)
theorem fall1_length (P : Pic) (p : (Int × CellC) × Fate) : (fall1 P p).length = P.length := by
  unfold fall1 put
  split <;> simp
theorem fallN_length (P : Pic) : ∀ l, (fallN P l).length = P.length := fun l => by
  unfold fallN
  induction l generalizing P with
  | nil => rfl
  | cons a l ih => rw [List.foldl_cons, ih, fall1_length]
theorem fall_length (P : Pic) (ws : List (Int × CellC)) (fs : List Fate) : (fall P ws fs).length = P.length := fallN_length P _
theorem fallN_snoc (P : Pic) (l : List ((Int × CellC) × Fate)) (x : (Int × CellC) × Fate) : fallN P (l ++ [x]) = fall1 (fallN P l) x := by
  unfold fallN
  rw [List.foldl_append]
  rfl
def cw (P : Pic) : List Wv := P.map fun c => .d (eC c)
theorem cw_eq (P : Pic) : cw P = (P.map eC).map .d := by unfold cw; rw [List.map_map]; rfl
theorem cw_set (P : Pic) (k : Nat) (x : Cell) : (cw P).set k (.d (eC x)) = cw (P.set k x) := by unfold cw; rw [List.map_set]
theorem cw_length (P : Pic) : (cw P).length = P.length := by unfold cw; simp
theorem prs_map {α β : Type} (e : α → PyData) (e' : β → PyData) : ∀ (xs : List α) (ys : List β), prs (xs.map e) (ys.map e') = (xs.zip ys).map fun p => .tuple [e p.1, e' p.2]
  | [], _ => by simp [prs]
  | _ :: _, [] => by simp [prs]
  | x :: xs, y :: ys => by
    have := prs_map e e' xs ys
    unfold prs at this ⊢
    simp only [List.map_cons, List.zipWith_cons_cons, List.zip_cons_cons]
    rw [this]
section
variable {S S1 : Sto} {δ δ' : DEnv} {F : Fm} {P : Pic}
theorem gSub_v {o i : ME} {n : Nat} {k : Int} {ws : List Wv} {w : Wv} (ho : o δ S = some (.ref n, S)) (hi : i δ S = some (.d (.int k), S)) (hn : S[n]? = some ws) (h0 : 0 ≤ k) (h1 : k < ws.length) :
    gSubD o i w δ S = some (δ, S.set n (ws.set k.toNat w)) := by
  unfold gSubD
  rw [ho, Option.bind_some, hi, Option.bind_some]
  show (S[n]?).bind _ = _
  rw [hn, Option.bind_some]
  have e : ixN ws.length k = some k.toNat := by unfold ixN; rw [if_pos h0, if_pos h1]
  rw [e]
  rfl
theorem asgG_v {g : MG} {e : ME} {w : Wv} {S' S'' : Sto} (he : e δ S = some (w, S')) (hg : g w δ S' = some (δ', S'')) : mAsgG g e δ S = some (.nx δ', S'') := by
  unfold mAsgG
  rw [he, Option.bind_some, hg]
  rfl
theorem fNe_old (f : Fate) : fNe (.d (eT f)) (.d (.str "old")) S = some (.d (.bool (!decide (f = .old))), S) := by cases f <;> kernel_rfl
theorem fEq_new (f : Fate) : fEq (.d (eT f)) (.d (.str "new")) S = some (.d (.bool (decide (f = .new))), S) := by cases f <;> kernel_rfl
theorem v_are_fates (fs : List Fate) (n : Int) (hf : fs.length < 1000000) : g_are_fates [.d (.int n), .d (eTs fs)] S = some (.d (.bool (decide ((fs.length : Int) = n))), S) := by
  by_cases e : (fs.length : Int) = n
  · refine sem_rt ((guard_f (mtNot_b (mTst_b (cl rfl (v_is_long (fs.map eT) n)))) (by simp [e])).trans (mRet_w ?_))
    refine (all_v fs (fun x => .d (eT x)) (fun _ => true) ?_ hf fun x hx => ⟨_, rfl, ?_⟩).trans ?_
    · have := src_tup (a := mVar 1) (δ := [some (.d (.int n)), some (.d (eTs fs)), none]) (S := S) (ds := fs.map eT) (J := fun S' => S' = S) rfl
      rw [List.map_map] at this
      exact this
    · cases x <;> kernel_rfl
    · simp [e]
  · refine (sem_rt (guard_t (mtNot_b (mTst_b (cl rfl (v_is_long (fs.map eT) n)))) (by simp [e]) (mRet_w rfl))).trans ?_
    simp [e]
/-- writes fit -/
def WOk (F : Fm) (ws : List (Int × CellC)) : Prop := ∀ w ∈ ws, 0 ≤ w.1 ∧ w.1 < F.c
theorem v_fallen_of {fw : Wv} {ws : List (Int × CellC)} {fs : List Fate} (ok : OkS S) (hp : P.length = F.c) (h : F.Ok) (hw : WOk F ws) (hl : fs.length = ws.length) (hf : fw = .d (.tuple (fs.map eT)) ∨ fw = .d (.list (fs.map eT))) :
    g_fallen [.d (eP P), .d (.tuple (ws.map eW)), fw] S = some (.d (eP (fall P ws fs)), S) := by
  refine trim_d (T := [cw (fall P ws fs)]) ?_ rfl ok
  refine sem_rt (seq (mSet_v (mMut_v (ws := cw P) (S' := S) ?_)) ?_)
  · show cList [.d (eP P)] S = _
    rw [cw_eq]
    rfl
  obtain ⟨δ2, S2, e2, x, y, z, rfl, rfl⟩ := for_inv (n := nTup (nCons (nTup (nCons (nName 4) (nCons (nName 5) nNil))) (nCons (nName 6) nNil)))
    (b := mIfS (mTst (mBin fNe (mVar 6) (mC (.str "old")))) (mAsgG (gSubD (mVar 3) (mVar 4)) (mIf (mTst (mBin fEq (mVar 6) (mC (.str "new")))) (mVar 5) (mC (.tuple [.str "torn"])))) mNext)
    (mi := mZip (mVar 1) (mVar 2)) (δ := [some (.d (eP P)), some (.d (.tuple (ws.map eW))), some fw, some (.ref S.length), none, none, none]) (S := S ++ [cw P])
    (ws.zip fs) (fun p => .d (.tuple [eW p.1, eT p.2])) (fun p δ' S' => ∃ x y z, δ' = [some (.d (eP P)), some (.d (.tuple (ws.map eW))), some fw, some (.ref S.length), x, y, z] ∧ S' = S ++ [cw (fallN P p)]) (J := fun _ => True) (by
      have hs : ∀ S', SeqOf fw (fs.map eT) S' := fun S' => by
        rcases hf with rfl | rfl
        · exact seqOf_tup
        · exact seqOf_list
      have := src_zip (a := mVar 1) (b := mVar 2) (δ := [some (.d (eP P)), some (.d (.tuple (ws.map eW))), some fw, some (.ref S.length), none, none, none]) (S := S ++ [cw P]) (ds := ws.map eW) (es := fs.map eT) (w1 := .d (.tuple (ws.map eW))) (w2 := fw) (J := fun _ => True) rfl rfl ⟨seqOf_tup, hs _⟩ (fun S' _ => ⟨seqOf_tup, hs _⟩) (by simp [hl])
      rw [prs_map, List.map_map] at this
      exact this) (fun _ _ _ _ => trivial) (by
      rintro p ⟨⟨k, cc⟩, f⟩ r δ1 S1 hx ⟨x, y, z, rfl, rfl⟩
      have hk : 0 ≤ k ∧ k < F.c := hw (k, cc) (by
        have : ((k, cc), f) ∈ ws.zip fs := by rw [hx]; simp
        exact (List.of_mem_zip this).1)
      have hlen : (fallN P p).length = F.c := by rw [fallN_length, hp]
      refine ⟨_, _, _, rfl, ?_, some (.d (.int k)), some (.d (eCC cc)), some (.d (eT f)), rfl, rfl⟩
      rw [fallN_snoc]
      have sub : ∀ x : Cell, gSubD (mVar 3) (mVar 4) (.d (eC x)) [some (.d (eP P)), some (.d (.tuple (ws.map eW))), some fw, some (.ref S.length), some (.d (.int k)), some (.d (eCC cc)), some (.d (eT f))] (S ++ [cw (fallN P p)]) =
          some ([some (.d (eP P)), some (.d (.tuple (ws.map eW))), some fw, some (.ref S.length), some (.d (.int k)), some (.d (eCC cc)), some (.d (eT f))], S ++ [cw (put (fallN P p) k x)]) := fun x => by
        refine (gSub_v rfl rfl get_last hk.1 (by rw [cw_length, hlen]; exact hk.2)).trans ?_
        rw [set_last, cw_set]
        rfl
      cases f with
      | old => exact (mIfS_f (mTst_b (p := false) (mBin_v rfl rfl (fNe_old .old)))).trans rfl
      | new => exact (mIfS_t (mTst_b (p := true) (mBin_v rfl rfl (fNe_old .new)))).trans (asgG_v ((mIf_t (mTst_b (p := true) (mBin_v rfl rfl (fEq_new .new)))).trans rfl) (sub (some cc)))
      | torn => exact (mIfS_t (mTst_b (p := true) (mBin_v rfl rfl (fNe_old .torn)))).trans (asgG_v ((mIf_f (mTst_b (p := false) (mBin_v rfl rfl (fEq_new .torn)))).trans rfl) (sub none))) ⟨none, none, none, rfl, rfl⟩
  refine seq e2 (mRet_w (cl rfl ?_))
  exact cTuple_ref (by rw [← cw_eq]; exact get_last)
theorem v_fallen {ws : List (Int × CellC)} {fs : List Fate} (ok : OkS S) (hp : P.length = F.c) (h : F.Ok) (hw : WOk F ws) (hl : fs.length = ws.length) :
    g_fallen [.d (eP P), .d (.tuple (ws.map eW)), .d (eTs fs)] S = some (.d (eP (fall P ws fs)), S) := v_fallen_of ok hp h hw hl (.inl rfl)
end
end K15
set_option Elab.async false
set_option linter.all false
set_option maxRecDepth 100000
set_option maxHeartbeats 4000000
set_option autoImplicit false
namespace K15
open PySem PySem.Spec PyProof.Rows L2
theorem cutG_drop {γ : Type} (xs : List γ) (k : Nat) : cutG xs (some (k : Int)) none = xs.drop k := by
  unfold cutG
  rw [HT.sIx_none, HT.sIx_nat]
  by_cases h : k ≤ xs.length
  · rw [Nat.min_eq_left h, List.take_of_length_le (by simp)]
  · rw [Nat.min_eq_right (by omega), List.drop_eq_nil_of_le (by omega), List.drop_eq_nil_of_le (by omega)]
    simp
theorem cutG_take {γ : Type} (xs : List γ) (k : Nat) : cutG xs none (some (k : Int)) = xs.take k := by
  unfold cutG
  rw [HT.sIx_none, HT.sIx_nat]
  by_cases h : k ≤ xs.length
  · rw [Nat.min_eq_left h]; simp
  · rw [Nat.min_eq_right (by omega)]
    simp
    rw [List.take_of_length_le (by omega)]
def land (P : Pic) (ws : List (Int × CellC)) : Pic := fall P ws (List.replicate ws.length .new)
structure Lg where
  P : Pic
  ws : List (Int × CellC)
  p : Int
def eDev (F : Fm) (P : Pic) (ws : List (Int × CellC)) : PyData := .tuple [eF F, eP P, .tuple (ws.map eW)]
def eLg (F : Fm) (l : Lg) : PyData := .tuple [eDev F l.P l.ws, .int l.p]
def syncN (l : Lg) : Lg := ⟨land l.P l.ws, [], l.p⟩
def logN (F : Fm) (l : Lg) (n : Note) : Lg :=
  let k := if l.ws.length = F.d then syncN l else l
  ⟨k.P, k.ws ++ [(k.p % F.c, (mark F k.p, n))], (k.p + 1) % F.t⟩
theorem land_length (P : Pic) (ws : List (Int × CellC)) : (land P ws).length = P.length := fall_length _ _ _
def runN (F : Fm) (P : Pic) (s : Int) : Nat → Nat
  | 0 => 0
  | k + 1 => if shows F P (s - 1) then 1 + runN F P (s - 1) k else 0
def plStep (F : Fm) (P : Pic) (a : List Int × Int) (n : Int) : List Int × Int := (if (F.c : Int) - F.d ≤ a.2 then a.1 ++ [n] else a.1, if shows F P n then a.2 + 1 else 0)
def placesN (F : Fm) (P : Pic) : List Int := ((rng 0 F.t).foldl (plStep F P) ([], (runN F P 0 F.c : Nat))).1
def laterN (t : Int) (ws : List Int) : List Int := ws.drop 1 ++ (ws.take 1).map (· + t)
def gapsN (t : Int) (ws : List Int) : List (Int × Int) := (ws.zip (laterN t ws)).map fun p => (p.1, p.2 - p.1)
def farN (d t : Int) (ws : List Int) : List Int := (gapsN t ws).filterMap fun p => if d < p.2 then some p.1 else none
def ansN : List Int → Option Int
  | [x] => some x
  | _ => none
def answerP (F : Fm) (P : Pic) : Option Int := ansN (farN F.d F.t (placesN F P))
def eO : Option Int → PyData
  | none => .none
  | some x => .int x
def eIs (l : List Int) : List PyData := l.map .int
section
variable {S S1 : Sto} {δ δ' : DEnv} {F : Fm} {P : Pic}
theorem rep_new (n : Nat) : (List.replicate n [Wv.d (.str "new")]).flatten = ((List.replicate n Fate.new).map eT).map .d := by
  induction n with
  | zero => rfl
  | succ n ih =>
    rw [List.replicate_succ, List.flatten_cons, ih, List.replicate_succ]
    rfl
theorem fRep_new (n : Nat) (hn : n < 1000) : fRep (.d (.list [.str "new"])) (.d (.int (n : Nat))) S = some (((List.replicate n Fate.new).map eT).map .d, S) := by
  unfold fRep
  dsimp only
  rw [show rdM S (.d (.list [.str "new"])) = some [Wv.d (.str "new")] from rfl, Option.bind_some, if_pos]
  · rw [Int.toNat_natCast, rep_new]
  · refine ⟨by omega, by omega, ?_⟩
    rw [Int.toNat_natCast, List.length_singleton]
    omega
theorem v_view_in {ws : List (Int × CellC)} (ok : OkS S) (hp : P.length = F.c) (h : F.Ok) (hw : WOk F ws) (hl : ws.length < 1000) : g_view_in [.d (eDev F P ws)] S = some (.d (eP (land P ws)), S) := by
  have e1 : mBinF fRep (mImm (mLst (mCons (mC (.str "new")) mNil))) (mCall cLen (mCons (mBin fIx (mVar 0) (mC (.int 2))) mNil)) [some (.d (eDev F P ws))] S = some (((List.replicate ws.length Fate.new).map eT).map .d, S) := by
    have e2 : mCall cLen (mCons (mBin fIx (mVar 0) (mC (.int 2))) mNil) [some (.d (eDev F P ws))] S = some (.d (.int (ws.length : Nat)), S) := by
      refine (show _ = some (Wv.d (.int ((ws.map eW).length : Nat)), S) from rfl).trans ?_
      rw [List.length_map]
    unfold mBinF
    rw [show mImm (mLst (mCons (mC (.str "new")) mNil)) [some (.d (eDev F P ws))] S = some (.d (.list [.str "new"]), S) from rfl, Option.bind_some, e2, Option.bind_some]
    exact fRep_new _ hl
  exact sem_rt (mRet_w (cl (mCons_v rfl (mCons_v rfl (mCons_v (mImm_v e1) rfl))) (v_fallen_of ok hp h hw (by simp) (.inr rfl))))
theorem mTup_2 {a b : ME} {x y : PyData} {S1 S2 : Sto} (h1 : a δ S = some (.d x, S1)) (h2 : b δ S1 = some (.d y, S2)) : mTup (mCons a (mCons b mNil)) δ S = some (.d (.tuple [x, y]), S2) :=
  mTup_v (ds := [x, y]) (mCons_v h1 (mCons_v h2 rfl)) (by simp)
theorem mTup_3 {a b c : ME} {x y z : PyData} {S1 S2 S3 : Sto} (h1 : a δ S = some (.d x, S1)) (h2 : b δ S1 = some (.d y, S2)) (h3 : c δ S2 = some (.d z, S3)) : mTup (mCons a (mCons b (mCons c mNil))) δ S = some (.d (.tuple [x, y, z]), S3) :=
  mTup_v (ds := [x, y, z]) (mCons_v h1 (mCons_v h2 (mCons_v h3 rfl))) (by simp)
theorem mTup_4 {a b c d : ME} {x y z u : PyData} {S1 S2 S3 S4 : Sto} (h1 : a δ S = some (.d x, S1)) (h2 : b δ S1 = some (.d y, S2)) (h3 : c δ S2 = some (.d z, S3)) (h4 : d δ S3 = some (.d u, S4)) : mTup (mCons a (mCons b (mCons c (mCons d mNil)))) δ S = some (.d (.tuple [x, y, z, u]), S4) :=
  mTup_v (ds := [x, y, z, u]) (mCons_v h1 (mCons_v h2 (mCons_v h3 (mCons_v h4 rfl)))) (by simp)
theorem asgN_v {n : MN} {e : ME} {w : Wv} {l : List (Nat × Wv)} {S' : Sto} (he : e δ S = some (w, S')) (hn : n w = some l) : mAsgN n e δ S = some (.nx (setsD δ l), S') := by
  unfold mAsgN
  rw [he, Option.bind_some, hn]
  rfl
theorem v_synced_in {l : Lg} (ok : OkS S) (hp : l.P.length = F.c) (h : F.Ok) (hw : WOk F l.ws) (hl : l.ws.length < 1000) : g_synced_in [.d (eLg F l)] S = some (.d (eLg F (syncN l)), S) :=
  sem_rt (seq (asgN_v (l := [(1, .d (eDev F l.P l.ws)), (2, .d (.int l.p))]) rfl rfl) (mRet_w (mTup_2 (mTup_3 rfl (cl rfl (v_view_in ok hp h hw hl)) rfl) rfl)))
theorem v_logged_in {l : Lg} {n : Note} (ok : OkS S) (hp : l.P.length = F.c) (h : F.Ok) (hw : WOk F l.ws) (hl : l.ws.length < 1000) : g_logged_in [.d (eLg F l), .d (eN n)] S = some (.d (eLg F (logN F l n)), S) := by
  have tail : ∀ k : Lg, k.ws.length < 1000 → mSeq (mSet 6 (mTup (mCons (mCall g_mark_in (mCons (mVar 2) (mCons (mVar 5) mNil))) (mCons (mVar 1) mNil)))) (mRet (mTup (mCons (mTup (mCons (mVar 2) (mCons (mVar 3) (mCons (mTup (mStar (mVar 4) (mCons (mTup (mCons (mBin fMod (mVar 5) (mBin fIx (mVar 2) (mC (.int 0)))) (mCons (mVar 6) mNil))) mNil))) mNil)))) (mCons (mCall g_place_in (mCons (mVar 2) (mCons (mBin fAdd (mVar 5) (mC (.int 1))) mNil))) mNil)))) [some (.d (eLg F l)), some (.d (eN n)), some (.d (eF F)), some (.d (eP k.P)), some (.d (.tuple (k.ws.map eW))), some (.d (.int k.p)), none] S =
      some (.rt (.d (eLg F ⟨k.P, k.ws ++ [(k.p % F.c, (mark F k.p, n))], (k.p + 1) % F.t⟩)), S) := fun k hk => by
    have star : mTup (mStar (mVar 4) (mCons (mTup (mCons (mBin fMod (mVar 5) (mBin fIx (mVar 2) (mC (.int 0)))) (mCons (mVar 6) mNil))) mNil)) [some (.d (eLg F l)), some (.d (eN n)), some (.d (eF F)), some (.d (eP k.P)), some (.d (.tuple (k.ws.map eW))), some (.d (.int k.p)), some (.d (eCC (mark F k.p, n)))] S =
        some (.d (.tuple ((k.ws ++ [(k.p % F.c, (mark F k.p, n))]).map eW)), S) := by
      refine mTup_v ?_ (by simp; omega)
      unfold mStar
      show (some (Wv.d (.tuple (k.ws.map eW)), S)).bind _ = _
      rw [Option.bind_some]
      show (some (k.ws.map eW)).bind _ = _
      rw [Option.bind_some]
      refine Option.bind_eq_some_iff.mpr ⟨_, mCons_v (mTup_2 (mBin_v rfl rfl (fMod_v k.p (c := F.c) (by have := h.c2; omega))) rfl) rfl, ?_⟩
      simp
      rfl
    exact seq (mSet_v (mTup_2 (cl rfl (v_mark_in h _)) rfl)) (mRet_w (mTup_2 (mTup_3 rfl rfl star) (cl rfl (v_place_in h _))))
  unfold logN
  refine sem_rt ?_
  by_cases e : l.ws.length = F.d
  · rw [if_pos e]
    refine seq (asgN_v (l := [(2, .d (eF F)), (3, .d (eP (land l.P l.ws))), (4, .d (.tuple [])), (5, .d (.int l.p))]) ((mIf_t (S1 := S) (mTst_b ((mBin_v rfl rfl (fEq_int ((l.ws.map eW).length : Nat) F.d)).trans ?_))).trans (cl rfl (v_synced_in ok hp h hw hl))) rfl) (tail (syncN l) (by simp [syncN]))
    rw [decide_eq_true (by simp [e])]
  · rw [if_neg e]
    refine seq (asgN_v (l := [(2, .d (eF F)), (3, .d (eP l.P)), (4, .d (.tuple (l.ws.map eW))), (5, .d (.int l.p))]) ((mIf_f (S1 := S) (mTst_b ((mBin_v rfl rfl (fEq_int ((l.ws.map eW).length : Nat) F.d)).trans ?_))).trans rfl) rfl) (tail l hl)
    rw [decide_eq_false (by simp; omega)]
theorem v_stood_in {l : Lg} (h : F.Ok) : g_stood_in [.d (eLg F l)] S = some (.d (.int ((l.p - (l.ws.length : Nat)) % F.t)), S) := by
  refine (sem_rt (mRet_w (cl rfl (v_place_in h _)))).trans ?_
  simp
/-! places -/
theorem v_run_in (h : F.Ok) (hp : P.length = F.c) (s : Int) : g_run_in [.d (eF F), .d (eP P), .d (.int s)] S = some (.d (.int (runN F P s F.c : Nat)), S) := by
  have loop : ∀ (r j f : Nat), j + r = F.c → r < f → whileG (mtAnd (mTst (mBin fLt (mVar 3) (mBin fIx (mVar 0) (mC (.int 0))))) (mTst (mCall g_shows_in (mCons (mVar 0) (mCons (mVar 1) (mCons (mBin fSub (mBin fSub (mVar 2) (mVar 3)) (mC (.int 1))) mNil)))))) (mSet 3 (mBin fAdd (mVar 3) (mC (.int 1)))) f [some (.d (eF F)), some (.d (eP P)), some (.d (.int s)), some (.d (.int j))] S =
      some (.nx [some (.d (eF F)), some (.d (eP P)), some (.d (.int s)), some (.d (.int ((j + runN F P (s - j) r : Nat) : Int)))], S) := by
    intro r
    induction r with
    | zero =>
      intro j f hj hf
      obtain ⟨f, rfl⟩ : ∃ g, f = g + 1 := ⟨f - 1, by omega⟩
      have c : mtAnd (mTst (mBin fLt (mVar 3) (mBin fIx (mVar 0) (mC (.int 0))))) (mTst (mCall g_shows_in (mCons (mVar 0) (mCons (mVar 1) (mCons (mBin fSub (mBin fSub (mVar 2) (mVar 3)) (mC (.int 1))) mNil))))) [some (.d (eF F)), some (.d (eP P)), some (.d (.int s)), some (.d (.int j))] S = some (false, S) := by
        refine (mtAnd_b (p := false) (q := false) (mTst_b ((mBin_v rfl rfl rfl).trans ?_)) (fun z => by cases z)).trans rfl
        show some (Wv.d (.bool (decide ((j : Int) < F.c))), S) = _
        rw [decide_eq_false (by omega)]
      show (mtAnd _ _ _ _).bind _ = _
      rw [c]
      rfl
    | succ r ih =>
      intro j f hj hf
      obtain ⟨f, rfl⟩ : ∃ g, f = g + 1 := ⟨f - 1, by omega⟩
      have c : mtAnd (mTst (mBin fLt (mVar 3) (mBin fIx (mVar 0) (mC (.int 0))))) (mTst (mCall g_shows_in (mCons (mVar 0) (mCons (mVar 1) (mCons (mBin fSub (mBin fSub (mVar 2) (mVar 3)) (mC (.int 1))) mNil))))) [some (.d (eF F)), some (.d (eP P)), some (.d (.int s)), some (.d (.int j))] S = some (shows F P (s - j - 1), S) := by
        refine (mtAnd_b (p := true) (q := shows F P (s - j - 1)) (mTst_b ((mBin_v rfl rfl rfl).trans ?_)) (fun z => mTst_b (cl rfl (v_shows_in h hp _)))).trans rfl
        show some (Wv.d (.bool (decide ((j : Int) < F.c))), S) = _
        rw [decide_eq_true (by omega)]
      show (mtAnd _ _ _ _).bind _ = _
      rw [c, Option.bind_some]
      unfold runN
      cases e : shows F P (s - j - 1) with
      | false => rfl
      | true =>
        have := ih (j + 1) f (by omega) (by omega)
        show (whileG _ _ f [some (.d (eF F)), some (.d (eP P)), some (.d (.int s)), some (.d (.int ((j : Int) + 1)))] S) = _
        have e1 : ((j : Int) + 1) = ((j + 1 : Nat) : Int) := by omega
        rw [e1, this]
        have e2 : s - ((j + 1 : Nat) : Int) = s - j - 1 := by omega
        rw [e2, if_pos rfl]
        have e3 : j + 1 + runN F P (s - j - 1) r = j + (1 + runN F P (s - j - 1) r) := by omega
        rw [e3]
  have := loop F.c 0 20 (by omega) (by have := h.c6; omega)
  refine sem_rt (seq (mSet_v rfl) (seq this (mRet_w ?_)))
  have e : s - ((0 : Nat) : Int) = s := by omega
  rw [e, Nat.zero_add]
  rfl
end
end K15
set_option Elab.async false
set_option linter.all false
set_option maxRecDepth 100000
set_option maxHeartbeats 4000000
set_option autoImplicit false
namespace K15
open PySem PySem.Spec PyProof.Rows L2
def iw (l : List Int) : List Wv := l.map fun i => .d (.int i)
theorem iw_eq (l : List Int) : iw l = (eIs l).map .d := by unfold iw eIs; rw [List.map_map]; rfl
theorem iw_snoc (l : List Int) (i : Int) : iw l ++ [.d (.int i)] = iw (l ++ [i]) := by unfold iw; simp
def mendN (F : Fm) (P : Pic) (a : Int) : List (Int × CellC) := (rng a (a + F.d)).filterMap fun n => if (!decide (cellAt F P n = none) && !shows F P (n - F.c)) = true then some (n % F.c, (mark F (n - F.c), .n0)) else none
theorem plStep_len (F : Fm) (P : Pic) (l : List Int) : ∀ a : List Int × Int, ((l.foldl (plStep F P) a).1).length ≤ a.1.length + l.length := by
  induction l with
  | nil => intro a; simp
  | cons x l ih =>
    intro a
    rw [List.foldl_cons]
    refine Nat.le_trans (ih _) ?_
    have : (plStep F P a x).1.length ≤ a.1.length + 1 := by
      unfold plStep
      dsimp only
      split <;> simp
    simp only [List.length_cons]
    omega
section
variable {S S1 : Sto} {δ δ' : DEnv} {F : Fm} {P : Pic}
theorem cLen_list (ds : List PyData) : cLen [.d (.list ds)] S = some (.d (.int (ds.length : Nat)), S) := by
  show (some (ds.map Wv.d)).map (fun ws => (Wv.d (.int (ws.length : Nat)), S)) = _
  rw [Option.map_some, List.length_map]
theorem cLen_ref {n : Nat} {ws : List Wv} (h : S[n]? = some ws) : cLen [.ref n] S = some (.d (.int (ws.length : Nat)), S) := by
  show (S[n]?).map (fun ws => (Wv.d (.int (ws.length : Nat)), S)) = _
  rw [h]
  rfl
theorem mPar_v {i j : Nat} {a : MA} {v w : Wv} {S' : Sto} (h : a δ S = some ([v, w], S')) : mPar i j a δ S = some (.nx ((δ.set i (some v)).set j (some w)), S') := by
  unfold mPar
  rw [h]
  rfl
theorem mAppend_v {o e : ME} {n : Nat} {w : Wv} {ws : List Wv} {S' : Sto} (ho : o δ S = some (.ref n, S)) (he : e δ S = some (w, S')) (hn : S'[n]? = some ws) (hl : ws.length < 1000000) : mAppend o e δ S = some (.d .none, S'.set n (ws ++ [w])) := by
  unfold mAppend
  rw [ho, Option.bind_some]
  show (e δ S).bind _ = _
  rw [he, Option.bind_some]
  show (S'[n]?).bind _ = _
  rw [hn, Option.bind_some, if_pos hl]
theorem fSl_list {ds : List PyData} {lo hi : Option Int} : fSl (.d (.list ds)) lo hi S = some (.d (.list (cutG ds lo hi)), S) := by
  show (some (ds.map Wv.d)).bind (fun ws => (toDs ws).map fun ds => (Wv.d (.list (cutG ds lo hi)), S)) = _
  rw [Option.bind_some, toDs_map]
  rfl
theorem fCat_v {a b : List PyData} (h : a.length + b.length ≤ 1000000) : fCat (.d (.list a)) (.d (.list b)) S = some ((a ++ b).map .d, S) := by
  unfold fCat
  rw [show rdM S (.d (.list a)) = some (a.map .d) from rfl, Option.bind_some, show rdM S (.d (.list b)) = some (b.map .d) from rfl, Option.bind_some, if_pos (by simpa using h), List.map_append]
theorem mBinF_v {f : F2F} {a b : ME} {w1 w2 : Wv} {r : Option (List Wv × Sto)} {S' : Sto} (h1 : a δ S = some (w1, S1)) (h2 : b δ S1 = some (w2, S')) (h : f w1 w2 S' = r) : mBinF f a b δ S = r := by unfold mBinF; rw [h1, Option.bind_some, h2, Option.bind_some]; exact h
theorem placesN_len (h : F.Ok) : (placesN F P).length ≤ 24 := by
  unfold placesN
  have := plStep_len F P (rng 0 F.t) ([], (runN F P 0 F.c : Nat))
  rw [rng_length] at this
  have := h.tle
  simp only [List.length_nil] at *
  omega
theorem v_places_in (ok : OkS S) (h : F.Ok) (hp : P.length = F.c) : g_places_in [.d (eF F), .d (eP P)] S = some (.d (.list (eIs (placesN F P))), S) := by
  have ht := h.tle
  refine trim_l (T := [iw (placesN F P)]) (l := S.length) ?_ rfl ok (Nat.le_refl _) (by rw [get_last, iw_eq])
  refine sem_rt (seq (mPar_v (mCons_v (mMut_v (ws := []) rfl) (mCons_v (cl rfl (v_run_in h hp 0)) rfl))) ?_)
  obtain ⟨δ2, S2, e2, y, rfl, rfl⟩ := for_inv (n := nName 4)
    (b := mSeq (mIfS (mTst (mBin fGe (mVar 3) (mBin fSub (mBin fIx (mVar 0) (mC (.int 0))) (mBin fIx (mVar 0) (mC (.int 1)))))) (mDrop (mAppend (mVar 2) (mVar 4))) mNext) (mSet 3 (mIf (mTst (mCall g_shows_in (mCons (mVar 0) (mCons (mVar 1) (mCons (mVar 4) mNil))))) (mBin fAdd (mVar 3) (mC (.int 1))) (mC (.int 0)))))
    (mi := mRange1 (mBin fMulA (mBin fIx (mVar 0) (mC (.int 0))) (mBin fIx (mVar 0) (mC (.int 2))))) (δ := [some (.d (eF F)), some (.d (eP P)), some (.ref S.length), some (.d (.int (runN F P 0 F.c : Nat))), none]) (S := S ++ [[]])
    (rng 0 F.t) (fun i => .d (.int i)) (fun p δ' S' => ∃ y, δ' = [some (.d (eF F)), some (.d (eP P)), some (.ref S.length), some (.d (.int (p.foldl (plStep F P) ([], (runN F P 0 F.c : Nat))).2)), y] ∧ S' = S ++ [iw (p.foldl (plStep F P) ([], (runN F P 0 F.c : Nat))).1]) (J := fun _ => True)
    (src_range1 (turn_v h rfl rfl) ⟨by omega, by omega⟩) (fun _ _ _ _ => trivial) (by
      rintro p x r δ1 S1 hx ⟨y, rfl, rfl⟩
      generalize hA : p.foldl (plStep F P) ([], ((runN F P 0 F.c : Nat) : Int)) = A
      have hlen : A.1.length < 1000000 := by
        have := plStep_len F P p ([], ((runN F P 0 F.c : Nat) : Int))
        rw [hA] at this
        have h2 : p.length ≤ (rng 0 F.t).length := by rw [hx]; simp
        rw [rng_length] at h2
        simp only [List.length_nil] at this
        omega
      refine ⟨_, _, _, rfl, ?_, some (.d (.int x)), rfl, rfl⟩
      rw [List.foldl_append, hA]
      show _ = some (Fl.nx [some (.d (eF F)), some (.d (eP P)), some (.ref S.length), some (.d (.int (plStep F P A x).2)), some (.d (.int x))], S ++ [iw (plStep F P A x).1])
      have c : mTst (mBin fGe (mVar 3) (mBin fSub (mBin fIx (mVar 0) (mC (.int 0))) (mBin fIx (mVar 0) (mC (.int 1))))) [some (.d (eF F)), some (.d (eP P)), some (.ref S.length), some (.d (.int A.2)), some (.d (.int x))] (S ++ [iw A.1]) = some (decide ((F.c : Int) - F.d ≤ A.2), S ++ [iw A.1]) := mTst_b (mBin_v rfl rfl rfl)
      have tail : ∀ S', mSet 3 (mIf (mTst (mCall g_shows_in (mCons (mVar 0) (mCons (mVar 1) (mCons (mVar 4) mNil))))) (mBin fAdd (mVar 3) (mC (.int 1))) (mC (.int 0))) [some (.d (eF F)), some (.d (eP P)), some (.ref S.length), some (.d (.int A.2)), some (.d (.int x))] S' = some (Fl.nx [some (.d (eF F)), some (.d (eP P)), some (.ref S.length), some (.d (.int (plStep F P A x).2)), some (.d (.int x))], S') := fun S' => by
        refine mSet_v ((mIf_b (mTst_b (cl rfl (v_shows_in h hp x)))).trans ?_)
        unfold plStep
        cases shows F P x <;> rfl
      have first : mIfS (mTst (mBin fGe (mVar 3) (mBin fSub (mBin fIx (mVar 0) (mC (.int 0))) (mBin fIx (mVar 0) (mC (.int 1)))))) (mDrop (mAppend (mVar 2) (mVar 4))) mNext [some (.d (eF F)), some (.d (eP P)), some (.ref S.length), some (.d (.int A.2)), some (.d (.int x))] (S ++ [iw A.1]) = some (Fl.nx [some (.d (eF F)), some (.d (eP P)), some (.ref S.length), some (.d (.int A.2)), some (.d (.int x))], S ++ [iw (plStep F P A x).1]) := by
        refine (mIfS_b c).trans ?_
        unfold plStep
        by_cases q : (F.c : Int) - F.d ≤ A.2
        · simp only [q, decide_true, if_true]
          refine mDrop_v (w := .d .none) ((mAppend_v rfl rfl get_last (by unfold iw; simpa using hlen)).trans ?_)
          rw [set_last]
          show some (Wv.d .none, S ++ [iw A.1 ++ [.d (.int x)]]) = _
          rw [iw_snoc]
        · simp only [q, decide_false, if_false, Bool.false_eq_true]
          rfl
      exact seq first (tail _)) ⟨none, rfl, rfl⟩
  exact seq e2 (mRet_w rfl)
theorem laterN_len (t : Int) (ws : List Int) : (laterN t ws).length = ws.length := by
  unfold laterN
  simp
  omega
theorem v_gaps_in (ok : OkS S) (h : F.Ok) (hp : P.length = F.c) : g_gaps_in [.d (eF F), .d (eP P)] S = some (.d (.list ((gapsN F.t (placesN F P)).map fun p => .tuple [.int p.1, .int p.2])), S) := by
  have hl := placesN_len (P := P) h
  generalize hW : placesN F P = W at hl
  refine sem_rt (seq (mSet_v (cl rfl ((v_places_in ok h hp).trans (by rw [hW])))) ?_)
  have comp1 : mComp (mIter (mSl (mVar 2) mNo (mPart (mC (.int 1))))) (nName 4) mtYes (mBin fAdd (mVar 4) (mBin fMulA (mBin fIx (mVar 0) (mC (.int 0))) (mBin fIx (mVar 0) (mC (.int 2))))) [4] [some (.d (eF F)), some (.d (eP P)), some (.d (.list (eIs W))), none, none, none] S = some (((W.take 1).map (· + F.t)).map (fun i => .d (.int i)), S) := by
    refine comp_map (W.take 1) (fun i => .d (.int i)) (· + F.t) (fun i => .d (.int i)) ?_ (by simp; omega) fun x hx => ⟨_, rfl, mBin_v rfl (turn_v h rfl rfl) rfl⟩
    have := src_list (a := mSl (mVar 2) mNo (mPart (mC (.int 1)))) (δ := [some (.d (eF F)), some (.d (eP P)), some (.d (.list (eIs W))), none, none, none]) (S := S) (ds := (eIs W).take 1) (J := fun S' => S' = S) (by
      refine (show _ = fSl (.d (.list (eIs W))) none (some (1 : Int)) S from rfl).trans ?_
      rw [fSl_list, show (1 : Int) = ((1 : Nat) : Int) from rfl, cutG_take])
    have e : ((eIs W).take 1).map Wv.d = (W.take 1).map fun i => .d (.int i) := by unfold eIs; rw [← List.map_take, List.map_map]; rfl
    rw [e] at this
    exact this
  have later : mImm (mBinF fCat (mSl (mVar 2) (mPart (mC (.int 1))) mNo) (mImm (mComp (mIter (mSl (mVar 2) mNo (mPart (mC (.int 1))))) (nName 4) mtYes (mBin fAdd (mVar 4) (mBin fMulA (mBin fIx (mVar 0) (mC (.int 0))) (mBin fIx (mVar 0) (mC (.int 2))))) [4]))) [some (.d (eF F)), some (.d (eP P)), some (.d (.list (eIs W))), none, none, none] S = some (.d (.list (eIs (laterN F.t W))), S) := by
    refine mImm_v (mBinF_v (w1 := .d (.list ((eIs W).drop 1))) (w2 := .d (.list (eIs ((W.take 1).map (· + F.t))))) (S1 := S) (S' := S) ?_ (mImm_v (comp1.trans ?_)) ((fCat_v ?_).trans ?_))
    · refine (show _ = fSl (.d (.list (eIs W))) (some (1 : Int)) none S from rfl).trans ?_
      rw [fSl_list, show (1 : Int) = ((1 : Nat) : Int) from rfl, cutG_drop]
    · rw [← iw_eq]; rfl
    · unfold eIs; simp; omega
    · unfold laterN eIs; simp
  refine seq (mSet_v later) (mRet_w (mImm_v ?_))
  have hll := laterN_len F.t W
  have := comp_map (n := nTup (nCons (nName 4) (nCons (nName 5) nNil))) (e := mTup (mCons (mVar 4) (mCons (mBin fSub (mVar 5) (mVar 4)) mNil))) (vs := [4, 5]) (mi := mZip (mVar 2) (mVar 3)) (δ := [some (.d (eF F)), some (.d (eP P)), some (.d (.list (eIs W))), some (.d (.list (eIs (laterN F.t W)))), none, none]) (S := S)
    (W.zip (laterN F.t W)) (fun p => .d (.tuple [.int p.1, .int p.2])) (fun p => (p.1, p.2 - p.1)) (fun p => .d (.tuple [.int p.1, .int p.2])) (by
      have := src_zip (a := mVar 2) (b := mVar 3) (δ := [some (.d (eF F)), some (.d (eP P)), some (.d (.list (eIs W))), some (.d (.list (eIs (laterN F.t W)))), none, none]) (S := S) (ds := eIs W) (es := eIs (laterN F.t W)) (w1 := .d (.list (eIs W))) (w2 := .d (.list (eIs (laterN F.t W)))) (J := fun S' => S' = S) rfl rfl ⟨seqOf_list, seqOf_list⟩ (fun S' _ => ⟨seqOf_list, seqOf_list⟩) (by unfold eIs; simp [hll])
      unfold eIs at this
      rw [prs_map, List.map_map] at this
      exact this) (by simp; omega) fun x hx => ⟨_, rfl, mTup_2 rfl rfl⟩
  refine this.trans ?_
  unfold gapsN
  rw [List.map_map, List.map_map, List.map_map]
  rfl
theorem v_far_in (ok : OkS S) (h : F.Ok) (hp : P.length = F.c) : g_far_in [.d (eF F), .d (eP P)] S = some (.d (.list (eIs (farN F.d F.t (placesN F P)))), S) := by
  have hl := placesN_len (P := P) h
  refine sem_rt (mRet_w (mImm_v ?_))
  refine (comp_src (gapsN F.t (placesN F P)) (fun p => .d (.tuple [.int p.1, .int p.2])) (fun p => if (F.d : Int) < p.2 then some p.1 else none) (fun i => .d (.int i)) ?_ ?_ fun x hx => ⟨[(2, .d (.int x.1)), (3, .d (.int x.2))], rfl, ?_⟩).trans ?_
  · have := src_list (a := mCall g_gaps_in (mCons (mVar 0) (mCons (mVar 1) mNil))) (δ := [some (.d (eF F)), some (.d (eP P)), none, none]) (S := S) (J := fun S' => S' = S) (cl rfl (v_gaps_in ok h hp))
    rw [List.map_map] at this
    exact this
  · unfold gapsN; simp; omega
  · by_cases q : (F.d : Int) < x.2
    · refine .inr ⟨x.1, by rw [if_pos q], mTst_b ((mBin_v rfl rfl rfl).trans ?_), rfl⟩
      show some (Wv.d (.bool (decide ((F.d : Int) < x.2))), S) = _
      rw [decide_eq_true q]
    · refine .inl ⟨by rw [if_neg q], mTst_b ((mBin_v rfl rfl rfl).trans ?_)⟩
      show some (Wv.d (.bool (decide ((F.d : Int) < x.2))), S) = _
      rw [decide_eq_false q]
  · rw [← iw_eq]; rfl
theorem v_answer_in (ok : OkS S) (h : F.Ok) (hp : P.length = F.c) : g_answer_in [.d (eF F), .d (eP P)] S = some (.d (eO (answerP F P)), S) := by
  unfold answerP
  generalize hW : farN F.d F.t (placesN F P) = W
  refine sem_rt (seq (mSet_v (cl rfl ((v_far_in ok h hp).trans (by rw [hW])))) (mRet_w ?_))
  refine (mIf_b (mTst_b (mBin_v (w1 := .d (.int ((eIs W).length : Nat))) (cl rfl (cLen_list _)) rfl (fEq_int _ 1)))).trans ?_
  match W with
  | [] => rfl
  | [x] => rfl
  | x :: y :: l =>
    have e : ¬ (((eIs (x :: y :: l)).length : Nat) : Int) = 1 := by
      unfold eIs
      simp
      omega
    rw [if_neg (by simpa using e)]
    rfl
end
end K15
set_option Elab.async false
set_option linter.all false
set_option maxRecDepth 100000
set_option maxHeartbeats 4000000
set_option autoImplicit false
namespace K15
open PySem PySem.Spec PyProof.Rows L2
def begunP (F : Fm) : Pic := List.replicate F.c (some ((F.m : Int) - 1, .n0))
structure Stn where
  P : Pic
  ws : List (Int × CellC)
  p : Option Int
  last : Option (Int × Int)
def eLast : Option (Int × Int) → PyData
  | none => .none
  | some x => .tuple [.int x.1, .int x.2]
def eStn (s : Stn) : PyData := .tuple [eP s.P, .tuple (s.ws.map eW), eO s.p, eLast s.last]
def awakeN (F : Fm) (P : Pic) (ws : List (Int × CellC)) (p : Int) : Ev → Option Stn
  | .write n => let l := logN F ⟨P, ws, p⟩ n; some ⟨l.P, l.ws, some l.p, none⟩
  | .sync => some ⟨land P ws, [], some p, none⟩
  | .cut fs => if fs.length = ws.length then some ⟨fall P ws fs, [], none, some ((p - (ws.length : Nat)) % F.t, (ws.length : Nat))⟩ else none
  | _ => none
def asleepN (F : Fm) (P : Pic) (last : Option (Int × Int)) (e : Ev) : Option Stn := match answerP F P with
  | none => none
  | some a => match e with
    | .wake => some ⟨land P (mendN F P a), [], some a, none⟩
    | .mend k fs => if 0 ≤ k ∧ k ≤ ((mendN F P a).length : Nat) ∧ (fs.length : Int) = k then some ⟨fall P ((mendN F P a).take k.toNat) fs, [], none, last⟩ else none
    | _ => none
def stepN (F : Fm) (s : Stn) (e : Ev) : Option Stn := match s.p with
  | none => asleepN F s.P s.last e
  | some p => awakeN F s.P s.ws p e
def begunN (F : Fm) : Stn := ⟨begunP F, [], some 0, none⟩
def lifeN (F : Fm) (L : List Ev) : Option Stn := L.foldl (fun o e => o.bind fun s => stepN F s e) (some (begunN F))
/-- a stand that fits -/
structure StnOk (F : Fm) (s : Stn) : Prop where
  len : s.P.length = F.c
  w : WOk F s.ws
  wl : s.ws.length ≤ F.d
def EvOk : Ev → Prop
  | .cut fs => fs.length < 1000
  | .mend _ fs => fs.length < 1000
  | _ => True
theorem placesN_mem {F : Fm} {P : Pic} {x : Int} (h : x ∈ placesN F P) : 0 ≤ x ∧ x < F.t := by
  have key : ∀ (l : List Int) (a : List Int × Int), (∀ y ∈ a.1, 0 ≤ y ∧ y < F.t) → (∀ y ∈ l, 0 ≤ y ∧ y < F.t) → ∀ y ∈ (l.foldl (plStep F P) a).1, 0 ≤ y ∧ y < F.t := by
    intro l
    induction l with
    | nil => intro a h1 _; exact h1
    | cons z l ih =>
      intro a h1 h2
      rw [List.foldl_cons]
      refine ih _ (fun y hy => ?_) fun y hy => h2 y (by simp [hy])
      unfold plStep at hy
      dsimp only at hy
      split at hy
      · rcases List.mem_append.mp hy with hy | hy
        · exact h1 y hy
        · rw [List.mem_singleton.mp hy]
          exact h2 z (by simp)
      · exact h1 y hy
  exact key _ _ (fun y hy => by simp at hy) (fun y hy => mem_rng.mp hy) x h
theorem gapsN_fst {t : Int} {ws : List Int} {p : Int × Int} (h : p ∈ gapsN t ws) : p.1 ∈ ws := by
  unfold gapsN at h
  obtain ⟨q, hq, rfl⟩ := List.mem_map.mp h
  exact (List.of_mem_zip hq).1
theorem farN_mem {d t : Int} {ws : List Int} {x : Int} (h : x ∈ farN d t ws) : x ∈ ws := by
  unfold farN at h
  obtain ⟨p, hp, e⟩ := List.mem_filterMap.mp h
  split at e
  · cases e; exact gapsN_fst hp
  · cases e
theorem answerP_mem {F : Fm} {P : Pic} {a : Int} (h : answerP F P = some a) : 0 ≤ a ∧ a < F.t := by
  unfold answerP ansN at h
  split at h
  · rename_i x e
    cases h
    exact placesN_mem (farN_mem (d := F.d) (t := F.t) (by rw [e]; simp))
  · cases h
theorem mendN_ok {F : Fm} (h : F.Ok) (P : Pic) (a : Int) : WOk F (mendN F P a) := fun w hw => by
  obtain ⟨n, hn, e⟩ := List.mem_filterMap.mp hw
  split at e
  · cases e
    have := h.c2
    exact ⟨Int.emod_nonneg _ (by omega), Int.emod_lt_of_pos _ (by omega)⟩
  · cases e
theorem mendN_len {F : Fm} (P : Pic) (a : Int) : (mendN F P a).length ≤ F.d := by
  refine Nat.le_trans (List.length_filterMap_le _ _) ?_
  rw [rng_length]
  omega
theorem WOk.take {F : Fm} {ws : List (Int × CellC)} (h : WOk F ws) (k : Nat) : WOk F (ws.take k) := fun w hw => h w (List.mem_of_mem_take hw)
section
variable {S S1 : Sto} {δ δ' : DEnv} {F : Fm} {P : Pic}
theorem v_writes_at (ok : OkS S) (h : F.Ok) (hp : P.length = F.c) (a : Int) (h0 : 0 ≤ a) (h1 : a < 1000) : g_writes_at [.d (eF F), .d (eP P), .d (.int a)] S = some (.d (.tuple ((mendN F P a).map eW)), S) := by
  have h6 := h.c6
  have hdc := h.dc
  refine trim_d (T := [((mendN F P a).map eW).map .d]) ?_ rfl ok
  refine sem_rt (seq (mSet_v (mMut_v (ws := []) rfl)) ?_)
  obtain ⟨δ2, S2, e2, y, z, rfl, rfl⟩ := for_inv (n := nName 4)
    (b := mSeq (mSet 5 (mBin fMod (mVar 4) (mBin fIx (mVar 0) (mC (.int 0))))) (mIfS (mtAnd (mTst (mBin fNe (mBin fIx (mVar 1) (mVar 5)) (mC (.tuple [.str "torn"])))) (mtNot (mTst (mCall g_shows_in (mCons (mVar 0) (mCons (mVar 1) (mCons (mBin fSub (mVar 4) (mBin fIx (mVar 0) (mC (.int 0)))) mNil))))))) (mDrop (mAppend (mVar 3) (mTup (mCons (mVar 5) (mCons (mTup (mCons (mCall g_mark_in (mCons (mVar 0) (mCons (mBin fSub (mVar 4) (mBin fIx (mVar 0) (mC (.int 0)))) mNil))) (mCons (mC (.tuple [.str "blank"])) mNil))) mNil))))) mNext))
    (mi := mRange2 (mVar 2) (mBin fAdd (mVar 2) (mBin fIx (mVar 0) (mC (.int 1))))) (δ := [some (.d (eF F)), some (.d (eP P)), some (.d (.int a)), some (.ref S.length), none, none]) (S := S ++ [[]])
    (rng a (a + F.d)) (fun i => .d (.int i)) (fun p δ' S' => ∃ y z, δ' = [some (.d (eF F)), some (.d (eP P)), some (.d (.int a)), some (.ref S.length), y, z] ∧ S' = S ++ [((p.filterMap fun n => if (!decide (cellAt F P n = none) && !shows F P (n - F.c)) = true then some (n % F.c, ((mark F (n - F.c), .n0) : CellC)) else none).map eW).map .d]) (J := fun _ => True)
    (src_range2 rfl rfl ⟨by omega, by omega, by omega, by omega⟩) (fun _ _ _ _ => trivial) (by
      rintro p x r δ1 S1 hx ⟨y, z, rfl, rfl⟩
      have hpl : p.length ≤ (rng a (a + F.d)).length := by rw [hx]; simp
      rw [rng_length] at hpl
      generalize hA : (p.filterMap fun n => if (!decide (cellAt F P n = none) && !shows F P (n - F.c)) = true then some (n % F.c, ((mark F (n - F.c), .n0) : CellC)) else none) = A
      have hAl : A.length ≤ p.length := by rw [← hA]; exact List.length_filterMap_le _ _
      refine ⟨_, _, _, rfl, ?_, some (.d (.int x)), some (.d (.int (x % F.c))), rfl, rfl⟩
      rw [List.filterMap_append, hA]
      have c : mtAnd (mTst (mBin fNe (mBin fIx (mVar 1) (mVar 5)) (mC (.tuple [.str "torn"])))) (mtNot (mTst (mCall g_shows_in (mCons (mVar 0) (mCons (mVar 1) (mCons (mBin fSub (mVar 4) (mBin fIx (mVar 0) (mC (.int 0)))) mNil)))))) [some (.d (eF F)), some (.d (eP P)), some (.d (.int a)), some (.ref S.length), some (.d (.int x)), some (.d (.int (x % F.c)))] (S ++ [(A.map eW).map .d]) =
          some (!decide (cellAt F P x = none) && !shows F P (x - F.c), S ++ [(A.map eW).map .d]) :=
        mtAnd_b (mTst_b (mBin_v (mBin_v rfl rfl (pic_at h hp x)) rfl (fNe_torn _))) fun _ => mtNot_b (mTst_b (cl rfl (v_shows_in h hp _)))
      refine seq (mSet_v (mBin_v rfl rfl (fMod_v x (c := F.c) (by have := h.c2; omega)))) ((mIfS_b c).trans ?_)
      by_cases q : (!decide (cellAt F P x = none) && !shows F P (x - F.c)) = true
      · rw [if_pos q]
        refine mDrop_v (w := .d .none) ((mAppend_v rfl (mTup_2 rfl (mTup_2 (cl rfl (v_mark_in h _)) rfl)) get_last (by simp; omega)).trans ?_)
        rw [set_last]
        simp only [List.filterMap_cons, List.filterMap_nil, q, if_true, List.map_append, List.map_cons, List.map_nil]
        rfl
      · rw [if_neg q]
        simp only [List.filterMap_cons, List.filterMap_nil, q, if_false, Bool.false_eq_true, List.append_nil]
        rfl) ⟨none, none, rfl, rfl⟩
  refine seq e2 (mRet_w (cl rfl ?_))
  exact cTuple_ref get_last
theorem v_begun_life (h : F.Ok) : g_begun_life [.d (eF F)] S = some (.d (eStn (begunN F)), S) := by
  have h6 := h.c6
  have e : mBin fMulA (mTup (mCons (mTup (mCons (mBin fSub (mBin fIx (mVar 0) (mC (.int 2))) (mC (.int 1))) (mCons (mC (.tuple [.str "blank"])) mNil))) mNil)) (mBin fIx (mVar 0) (mC (.int 0))) [some (.d (eF F))] S = some (.d (eP (begunP F)), S) := by
    refine mBin_v (w1 := .d (.tuple [eCC ((F.m : Int) - 1, .n0)])) (w2 := .d (.int F.c)) rfl rfl ?_
    unfold fMulA
    dsimp only
    rw [if_pos]
    · rw [Int.toNat_natCast]
      have : (List.replicate F.c [eCC ((F.m : Int) - 1, .n0)]).flatten = (begunP F).map eC := by
        unfold begunP
        rw [List.map_replicate]
        generalize F.c = k
        induction k with
        | zero => rfl
        | succ k ih =>
          rw [List.replicate_succ, List.flatten_cons, ih, List.replicate_succ]
          rfl
      rw [this]
      rfl
    · exact ⟨by simp, by omega, by omega, by simp⟩
  exact sem_rt (mRet_w (mTup_4 e rfl rfl rfl))
theorem fEq_str (x y : Str) (b : Bool) (hx : SeqAt.shaped (.str x) = true) (hy : SeqAt.shaped (.str y) = true) (h : decide (x = y) = b) : fEq (.d (.str x)) (.d (.str y)) S = some (.d (.bool b), S) := by
  refine fEq_of hx hy ?_
  rw [PyData.eqv, ← h]
  by_cases e : x = y <;> simp [e]
end
def eOS : Option Stn → PyData
  | none => .none
  | some s => eStn s
section
variable {S S1 : Sto} {δ δ' : DEnv} {F : Fm} {P : Pic}
theorem v_behind_awake (ok : OkS S) (h : F.Ok) (hp : P.length = F.c) {ws : List (Int × CellC)} (hw : WOk F ws) (hl : ws.length ≤ F.d) (p : Int) (last : Option (Int × Int)) (e : Ev) (he : EvOk e) :
    g_behind_awake [.d (eF F), .d (eStn ⟨P, ws, some p, last⟩), .d (eE e)] S = some (.d (eOS (awakeN F P ws p e)), S) := by
  have h6 := h.c6
  have hdc := h.dc
  refine sem_rt (seq (asgN_v (l := [(3, .d (eP P)), (4, .d (.tuple (ws.map eW))), (5, .d (.int p)), (6, .d (eLast last))]) rfl rfl) (seq (mSet_v (mTup_2 (mTup_3 rfl rfl rfl) rfl)) ?_))
  cases e with
  | write n =>
    refine guard_t (p := true) (by cases n <;> kernel_rfl) rfl ?_
    have := v_logged_in (l := ⟨P, ws, p⟩) (n := n) ok hp h hw (show ws.length < 1000 by omega)
    exact seq (asgN_v (cl rfl this) rfl) (mRet_w (mTup_4 rfl rfl rfl rfl))
  | sync =>
    refine (guard_f (p := false) (by kernel_rfl) rfl).trans (guard_t (p := true) (by kernel_rfl) rfl ?_)
    exact mRet_w (mTup_4 (cl rfl (v_view_in ok hp h hw (by omega))) rfl rfl rfl)
  | cut fs =>
    refine (guard_f (p := false) (by kernel_rfl) rfl).trans ((guard_f (p := false) (by kernel_rfl) rfl).trans ?_)
    have he : fs.length < 1000 := he
    have c : mtAnd (mTst (mCall g_is_long (mCons (mVar 2) (mCons (mC (.int 2)) mNil)))) (mtAnd (mTst (mBin fEq (mBin fIx (mVar 2) (mC (.int 0))) (mC (.str "cut")))) (mTst (mCall g_are_fates (mCons (mCall cLen (mCons (mVar 4) mNil)) (mCons (mBin fIx (mVar 2) (mC (.int 1))) mNil)))))
        [some (.d (eF F)), some (.d (eStn ⟨P, ws, some p, last⟩)), some (.d (eE (.cut fs))), some (.d (eP P)), some (.d (.tuple (ws.map eW))), some (.d (.int p)), some (.d (eLast last)), some (.d (eLg F ⟨P, ws, p⟩)), none, none, none] S = some (decide ((fs.length : Int) = ((ws.map eW).length : Nat)), S) :=
      (mtAnd_b (p := true) (by kernel_rfl) fun _ => (mtAnd_b (p := true) (by kernel_rfl) fun _ => mTst_b (cl rfl (v_are_fates fs _ (by omega)))).trans rfl).trans rfl
    by_cases q : fs.length = ws.length
    · have q2 : decide ((fs.length : Int) = ((ws.map eW).length : Nat)) = true := by simp [q]
      have e1 : awakeN F P ws p (.cut fs) = some ⟨fall P ws fs, [], none, some ((p - (ws.length : Nat)) % F.t, (ws.length : Nat))⟩ := by
        show (if _ then _ else _) = _
        rw [if_pos q]
      rw [e1]
      have e2 : mTup (mCons (mCall g_stood_in (mCons (mVar 7) mNil)) (mCons (mCall cLen (mCons (mVar 4) mNil)) mNil)) [some (.d (eF F)), some (.d (eStn ⟨P, ws, some p, last⟩)), some (.d (eE (.cut fs))), some (.d (eP P)), some (.d (.tuple (ws.map eW))), some (.d (.int p)), some (.d (eLast last)), some (.d (eLg F ⟨P, ws, p⟩)), none, none, none] S = some (.d (eLast (some ((p - (ws.length : Nat)) % F.t, (ws.length : Nat)))), S) := by
        refine (mTup_2 (cl rfl (v_stood_in (l := ⟨P, ws, p⟩) h)) rfl).trans ?_
        show some (Wv.d (.tuple [_, .int ((ws.map eW).length : Nat)]), S) = _
        rw [List.length_map]
        rfl
      exact guard_t c q2 (mRet_w (mTup_4 (cl rfl (v_fallen ok hp h hw q)) rfl rfl e2))
    · have q2 : decide ((fs.length : Int) = ((ws.map eW).length : Nat)) = false := by simp; omega
      have e1 : awakeN F P ws p (.cut fs) = none := by
        show (if _ then _ else _) = _
        rw [if_neg q]
      rw [e1]
      exact (guard_f c q2).trans (mRet_w rfl)
  | wake => exact (guard_f (p := false) (by kernel_rfl) rfl).trans ((guard_f (p := false) (by kernel_rfl) rfl).trans ((guard_f (p := false) (by kernel_rfl) rfl).trans (mRet_w rfl)))
  | mend k fs => exact (guard_f (p := false) (by kernel_rfl) rfl).trans ((guard_f (p := false) (by kernel_rfl) rfl).trans ((guard_f (p := false) (by kernel_rfl) rfl).trans (mRet_w rfl)))
theorem fIs_v (w : Wv) : fIs w (.d .none) S = some (.d (.bool (isNon w)), S) := rfl
theorem fSl_tup {ds : List PyData} {lo hi : Option Int} : fSl (.d (.tuple ds)) lo hi S = some (.d (.tuple (cutG ds lo hi)), S) := rfl
theorem rep_newT (n : Nat) : (List.replicate n [PyData.str "new"]).flatten = (List.replicate n Fate.new).map eT := by
  induction n with
  | zero => rfl
  | succ n ih =>
    rw [List.replicate_succ, List.flatten_cons, ih, List.replicate_succ]
    rfl
theorem v_behind_asleep (ok : OkS S) (h : F.Ok) (hp : P.length = F.c) {ws : List (Int × CellC)} (last : Option (Int × Int)) (e : Ev) (he : EvOk e) :
    g_behind_asleep [.d (eF F), .d (eStn ⟨P, ws, none, last⟩), .d (eE e)] S = some (.d (eOS (asleepN F P last e)), S) := by
  have h6 := h.c6
  have hdc := h.dc
  have ht := h.tle
  refine sem_rt (seq (mPar_v (mCons_v rfl (mCons_v (cl rfl (v_answer_in ok h hp)) rfl))) ?_)
  cases ea : answerP F P with
  | none =>
    have e1 : asleepN F P last e = none := by unfold asleepN; rw [ea]
    rw [e1]
    exact guard_t (p := true) (mTst_b (mBin_v rfl rfl rfl)) rfl (mRet_w rfl)
  | some a =>
    have ha := answerP_mem ea
    have hml := mendN_len (F := F) P a
    have hmo := mendN_ok h P a
    refine (guard_f (p := false) (mTst_b (mBin_v rfl rfl rfl)) rfl).trans (seq (mSet_v (cl rfl (v_writes_at ok h hp a ha.1 (by omega)))) ?_)
    cases e with
    | write n =>
      have e1 : asleepN F P last (.write n) = none := by unfold asleepN; rw [ea]
      rw [e1]
      exact (guard_f (p := false) (by kernel_rfl) rfl).trans (guard_t (p := true) (by kernel_rfl) rfl (mRet_w rfl))
    | sync =>
      have e1 : asleepN F P last .sync = none := by unfold asleepN; rw [ea]
      rw [e1]
      exact (guard_f (p := false) (by kernel_rfl) rfl).trans (guard_t (p := true) (by kernel_rfl) rfl (mRet_w rfl))
    | cut fs =>
      have e1 : asleepN F P last (.cut fs) = none := by unfold asleepN; rw [ea]
      rw [e1]
      exact (guard_f (p := false) (by kernel_rfl) rfl).trans (guard_t (p := true) (by kernel_rfl) rfl (mRet_w rfl))
    | wake =>
      have e1 : asleepN F P last .wake = some ⟨land P (mendN F P a), [], some a, none⟩ := by unfold asleepN; rw [ea]
      rw [e1]
      refine guard_t (p := true) (by kernel_rfl) rfl (mRet_w ?_)
      have e2 : mBin fMulA (mTup (mCons (mC (.str "new")) mNil)) (mCall cLen (mCons (mVar 5) mNil)) [some (.d (eF F)), some (.d (eStn ⟨P, ws, none, last⟩)), some (.d (eE .wake)), some (.d (eP P)), some (.d (eO (some a))), some (.d (.tuple ((mendN F P a).map eW)))] S = some (.d (.tuple ((List.replicate (mendN F P a).length Fate.new).map eT)), S) := by
        refine mBin_v (w1 := .d (.tuple [.str "new"])) (w2 := .d (.int (((mendN F P a).map eW).length : Nat))) rfl rfl ?_
        rw [List.length_map]
        unfold fMulA
        dsimp only
        rw [if_pos]
        · rw [Int.toNat_natCast, rep_newT]
        · exact ⟨by simp, by omega, by omega, by simp⟩
      exact mTup_4 (cl (mCons_v rfl (mCons_v rfl (mCons_v e2 rfl))) (v_fallen_of ok hp h hmo (by simp) (.inl rfl))) rfl rfl rfl
    | mend k fs =>
      have he : fs.length < 1000 := he
      refine (guard_f (p := false) (by kernel_rfl) rfl).trans ?_
      have c : mtOr (mtNot (mTst (mCall g_is_long (mCons (mVar 2) (mCons (mC (.int 3)) mNil))))) (mtOr (mTst (mBin fNe (mBin fIx (mVar 2) (mC (.int 0))) (mC (.str "mend")))) (mtNot (mTst (mCall g_is_within (mCons (mBin fIx (mVar 2) (mC (.int 1))) (mCons (mC (.int 0)) (mCons (mCall cLen (mCons (mVar 5) mNil)) mNil)))))))
          [some (.d (eF F)), some (.d (eStn ⟨P, ws, none, last⟩)), some (.d (eE (.mend k fs))), some (.d (eP P)), some (.d (eO (some a))), some (.d (.tuple ((mendN F P a).map eW)))] S = some (!(decide (0 ≤ k) && decide (k ≤ (((mendN F P a).map eW).length : Nat))), S) :=
        (mtOr_b (p := false) (by kernel_rfl) fun _ => (mtOr_b (p := false) (by kernel_rfl) fun _ => mtNot_b (mTst_b (cl rfl (v_is_within k 0 _)))).trans rfl).trans rfl
      have e1 : asleepN F P last (.mend k fs) = if 0 ≤ k ∧ k ≤ ((mendN F P a).length : Nat) ∧ (fs.length : Int) = k then some ⟨fall P ((mendN F P a).take k.toNat) fs, [], none, last⟩ else none := by unfold asleepN; rw [ea]
      rw [e1]
      by_cases q : 0 ≤ k ∧ k ≤ ((mendN F P a).length : Nat)
      · have q2 : (!(decide (0 ≤ k) && decide (k ≤ (((mendN F P a).map eW).length : Nat)))) = false := by simp [q.1, q.2]
        refine (guard_f c q2).trans ?_
        by_cases q3 : (fs.length : Int) = k
        · rw [if_pos ⟨q.1, q.2, q3⟩]
          refine (guard_f (mtNot_b (mTst_b (cl rfl (v_are_fates fs k (by omega))))) (by simp [q3])).trans (mRet_w ?_)
          have e3 : mSl (mVar 5) mNo (mPart (mBin fIx (mVar 2) (mC (.int 1)))) [some (.d (eF F)), some (.d (eStn ⟨P, ws, none, last⟩)), some (.d (eE (.mend k fs))), some (.d (eP P)), some (.d (eO (some a))), some (.d (.tuple ((mendN F P a).map eW)))] S = some (.d (.tuple (((mendN F P a).take k.toNat).map eW)), S) := by
            refine (show _ = fSl (.d (.tuple ((mendN F P a).map eW))) none (some k) S from rfl).trans ?_
            rw [fSl_tup, show k = ((k.toNat : Nat) : Int) by omega, cutG_take, List.map_take, Int.toNat_natCast]
          exact mTup_4 (cl (mCons_v rfl (mCons_v e3 (mCons_v rfl rfl))) (v_fallen ok hp h (hmo.take _) (by simp; omega))) rfl rfl rfl
        · rw [if_neg (fun z => q3 z.2.2)]
          exact guard_t (mtNot_b (mTst_b (cl rfl (v_are_fates fs k (by omega))))) (by simp [q3]) (mRet_w rfl)
      · rw [if_neg (fun z => q ⟨z.1, z.2.1⟩)]
        refine guard_t c ?_ (mRet_w rfl)
        rw [List.length_map]
        by_cases q1 : 0 ≤ k
        · have : ¬ k ≤ ((mendN F P a).length : Nat) := fun z => q ⟨q1, z⟩
          simp [this]
        · simp [q1]
end
theorem logN_ok {F : Fm} (h : F.Ok) {l : Lg} {n : Note} (hp : l.P.length = F.c) (hw : WOk F l.ws) (hl : l.ws.length ≤ F.d) : (logN F l n).P.length = F.c ∧ WOk F (logN F l n).ws ∧ (logN F l n).ws.length ≤ F.d := by
  have hd := h.d1
  have hc := h.c2
  unfold logN
  by_cases e : l.ws.length = F.d
  · rw [if_pos e]
    refine ⟨by show (land l.P l.ws).length = _; rw [land_length, hp], ?_, by simp [syncN]; omega⟩
    intro w hw
    simp only [syncN, List.nil_append, List.mem_singleton] at hw
    subst hw
    exact ⟨Int.emod_nonneg _ (by omega), Int.emod_lt_of_pos _ (by omega)⟩
  · rw [if_neg e]
    refine ⟨hp, ?_, by simp; omega⟩
    intro w hw'
    rcases List.mem_append.mp hw' with q | q
    · exact hw w q
    · rw [List.mem_singleton.mp q]
      exact ⟨Int.emod_nonneg _ (by omega), Int.emod_lt_of_pos _ (by omega)⟩
theorem stepN_ok {F : Fm} (h : F.Ok) {s s' : Stn} (hs : StnOk F s) {e : Ev} (he : stepN F s e = some s') : StnOk F s' := by
  obtain ⟨P, ws, p, last⟩ := s
  obtain ⟨hp, hw, hl⟩ := hs
  dsimp only at hp hw hl
  unfold stepN at he
  dsimp only at he
  cases p with
  | none =>
    dsimp only at he
    unfold asleepN at he
    split at he
    · cases he
    · split at he
      · cases he
        exact ⟨by rw [land_length]; exact hp, fun w hw => by simp at hw, by simp⟩
      · split at he
        · cases he
          exact ⟨by rw [fall_length]; exact hp, fun w hw => by simp at hw, by simp⟩
        · cases he
      · cases he
  | some p =>
    dsimp only at he
    cases e with
    | write n =>
      cases he
      obtain ⟨a, b, c⟩ := logN_ok h (l := ⟨P, ws, p⟩) (n := n) hp hw hl
      exact ⟨a, b, c⟩
    | sync =>
      cases he
      exact ⟨by rw [land_length]; exact hp, fun w hw => by simp at hw, by simp⟩
    | cut fs =>
      unfold awakeN at he
      dsimp only at he
      split at he
      · cases he
        exact ⟨by rw [fall_length]; exact hp, fun w hw => by simp at hw, by simp⟩
      · cases he
    | wake => cases he
    | mend k fs => cases he
theorem begunN_ok {F : Fm} : StnOk F (begunN F) := ⟨by unfold begunN begunP; simp, fun w hw => by simp [begunN] at hw, by simp [begunN]⟩
theorem foldl_none {F : Fm} : ∀ L : List Ev, L.foldl (fun o e => o.bind fun s => stepN F s e) none = none
  | [] => rfl
  | _ :: L => foldl_none L
theorem lifeN_snoc (F : Fm) (L : List Ev) (e : Ev) : lifeN F (L ++ [e]) = (lifeN F L).bind fun s => stepN F s e := by
  unfold lifeN
  rw [List.foldl_append]
  rfl
theorem lifeN_pre {F : Fm} {L M : List Ev} (h : lifeN F L = none) : lifeN F (L ++ M) = none := by
  unfold lifeN at h ⊢
  rw [List.foldl_append, h, foldl_none]
theorem lifeN_ok {F : Fm} (h : F.Ok) : ∀ (L : List Ev) (s : Stn), lifeN F L = some s → StnOk F s := by
  have key : ∀ (L : List Ev) (o : Option Stn), (∀ s, o = some s → StnOk F s) → ∀ s, L.foldl (fun o e => o.bind fun s => stepN F s e) o = some s → StnOk F s := by
    intro L
    induction L with
    | nil => intro o h1 s e; exact h1 s e
    | cons a L ih =>
      intro o h1 s e
      rw [List.foldl_cons] at e
      refine ih _ (fun s' hs' => ?_) s e
      obtain ⟨s0, e0, e1⟩ := bind_some hs'
      exact stepN_ok h (h1 s0 e0) e1
  exact fun L s e => key L _ (fun s' hs' => by cases hs'; exact begunN_ok) s e
section
variable {S S1 : Sto} {δ δ' : DEnv} {F : Fm} {P : Pic}
theorem v_life_in (ok : OkS S) (h : F.Ok) (L : List Ev) (hL : ∀ e ∈ L, EvOk e) : g_life_in [.d (eF F), .d (eL L)] S = some (.d (eOS (lifeN F L)), S) := by
  refine sem_rt (seq (mSet_v (cl rfl (v_begun_life h))) ?_)
  have src : Src (mIter (mVar 1)) [some (.d (eF F)), some (.d (eL L)), some (.d (eStn (begunN F))), none] S (L.map fun e => .d (eE e)) (fun S' => S' = S) := by
    have := src_tup (a := mVar 1) (δ := [some (.d (eF F)), some (.d (eL L)), some (.d (eStn (begunN F))), none]) (S := S) (ds := L.map eE) (J := fun S' => S' = S) rfl
    rw [List.map_map] at this
    exact this
  rcases for_inv3 (n := nName 3) (b := mIfS (mtAnd (mTst (mBin fIsNot (mVar 2) (mC .none))) (mTst (mCall cIsi (mCons (mVar 3) (mCons (mTy .tuple) mNil))))) (mSet 2 (mIf (mTst (mBin fIs (mBin fIx (mVar 2) (mC (.int 2))) (mC .none))) (mCall g_behind_asleep (mCons (mVar 0) (mCons (mVar 2) (mCons (mVar 3) mNil)))) (mCall g_behind_awake (mCons (mVar 0) (mCons (mVar 2) (mCons (mVar 3) mNil)))))) (mRet (mC .none)))
    L (fun e => .d (eE e)) (fun p δ' S' => S' = S ∧ ∃ y, δ' = [some (.d (eF F)), some (.d (eL L)), some (.d (eOS (lifeN F p))), y]) (fun _ _ => False) (fun w S' => w = .d .none ∧ S' = S ∧ lifeN F L = none) src (fun _ _ _ hh => hh.1) (by
      rintro p x r δ1 S1 hx ⟨rfl, y, rfl⟩
      refine ⟨_, rfl, ?_⟩
      rw [lifeN_snoc]
      cases e0 : lifeN F p with
      | none =>
        refine .inr (.inr ⟨.d .none, S1, (mIfS_f (mtAnd_b (p := false) (q := false) (mTst_b (mBin_v rfl rfl rfl)) (fun z => by cases z))).trans (mRet_w rfl), rfl, rfl, ?_⟩)
        rw [hx]
        exact lifeN_pre e0
      | some s =>
        refine .inl ⟨_, S1, ?_, rfl, some (.d (eE x)), rfl⟩
        have hs := lifeN_ok h p s e0
        have hxe : EvOk x := hL x (by rw [hx]; simp)
        refine (mIfS_t (S' := S1) ((mtAnd_b (p := true) (q := true) (mTst_b (mBin_v rfl rfl rfl)) fun _ => mTst_b (by cases x <;> rfl)).trans rfl)).trans (mSet_v (w := .d (eOS (stepN F s x))) ?_)
        obtain ⟨P, ws, p', last⟩ := s
        obtain ⟨hp, hw, hl⟩ := hs
        cases p' with
        | none => exact (mIf_t (S1 := S1) (mTst_b (p := true) rfl)).trans (cl rfl (v_behind_asleep ok h hp last x hxe))
        | some p' => exact (mIf_f (S1 := S1) (mTst_b (p := false) rfl)).trans (cl rfl (v_behind_awake ok h hp hw hl p' last x hxe))) ⟨rfl, none, rfl⟩ with ⟨δ', S', e, hh⟩ | ⟨w, S', e, rfl, rfl, hn⟩
  · rcases hh with ⟨rfl, y, rfl⟩ | hh
    · exact seq e (mRet_w rfl)
    · exact hh.elim
  · rw [hn]
    exact mSeq_rt e
end
end K15
set_option Elab.async false
set_option linter.all false
set_option maxRecDepth 100000
set_option maxHeartbeats 4000000
set_option autoImplicit false
namespace K15
open PySem PySem.Spec PyProof.Rows L2
def winN (F : Fm) (P : Pic) (s : Int) : List Int := (rng (s - F.c + F.d) s).filterMap fun n => if (!shows F P n) = true then some (n % F.c) else none
def fliN (F : Fm) (P : Pic) (s : Int) : List Int := (rng s (s + F.d)).filterMap fun n => if (!decide (cellAt F P n = none) && !(shows F P n || shows F P (n - F.c))) = true then some (n % F.c) else none
def barsU (F : Fm) (P : Pic) (s : Int) : List Int := winN F P s ++ fliN F P s
def barsN (F : Fm) (P : Pic) (s : Int) : List Int := isort (barsU F P s)
def allN (F : Fm) (P : Pic) : List (List Int) := (rng 0 F.t).map (barsN F P)
def eIL (l : List Int) : PyData := .list (eIs l)
def canN (F : Fm) (P : Pic) : Bool := (allN F P).any fun l => decide (l = [])
theorem barsU_len {F : Fm} (h : F.Ok) (P : Pic) (s : Int) : (barsU F P s).length ≤ F.c := by
  have := h.dc
  unfold barsU winN fliN
  rw [List.length_append]
  have a := List.length_filterMap_le (fun n => if (!shows F P n) = true then some (n % (F.c : Int)) else none) (rng (s - F.c + F.d) s)
  have b := List.length_filterMap_le (fun n => if (!decide (cellAt F P n = none) && !(shows F P n || shows F P (n - F.c))) = true then some (n % (F.c : Int)) else none) (rng s (s + F.d))
  rw [rng_length] at a b
  omega
theorem isort_len (l : List Int) : (isort l).length = l.length := (isort_perm l).length_eq
theorem barsN_len {F : Fm} (h : F.Ok) (P : Pic) (s : Int) : (barsN F P s).length ≤ F.c := by unfold barsN; rw [isort_len]; exact barsU_len h P s
theorem allN_len (F : Fm) (P : Pic) : (allN F P).length = F.t.toNat := by unfold allN; rw [List.length_map, rng_length, Int.sub_zero]
theorem shp_eIs (l : List Int) : ∀ x ∈ eIs l, shp 0 x := fun x hx => by
  obtain ⟨i, _, rfl⟩ := List.mem_map.mp hx
  exact shp_int i
theorem shp_eIL (l : List Int) : shp 1 (eIL l) := shp_list (shp_eIs l)
theorem eqv_list (xs ys : List PyData) : PyData.eqv (.list xs) (.list ys) = PyData.eqvAll xs ys := by rw [PyData.eqv]
theorem eqvAll_ints (l m : List Int) : PyData.eqvAll (eIs l) (eIs m) = decide (l = m) := eqvAll_map .int eqv_int l m
theorem toInts_iw : ∀ l : List Int, toInts (iw l) = some l
  | [] => rfl
  | a :: l => by
    show (toInts (iw l)).map (a :: ·) = _
    rw [toInts_iw l]
    rfl
section
variable {S S1 : Sto} {δ δ' : DEnv} {F : Fm} {P : Pic}
theorem mLst_1 {e : ME} {w : Wv} {S' : Sto} (h : e δ S = some (w, S')) : mLst (mCons e mNil) δ S = some ([w], S') := by
  unfold mLst
  rw [mCons_v h (show mNil δ S' = some ([], S') from rfl)]
  rfl
theorem cSorted_ref {n : Nat} {l : List Int} (h : S[n]? = some (iw l)) : cSorted [.ref n] S = some (iw (isort l), S) := by
  show (S[n]?).bind (fun ws => (toInts ws).map fun ns => ((isort ns).map fun i => Wv.d (.int i), S)) = _
  rw [h, Option.bind_some, toInts_iw]
  rfl
theorem mCallF_v {f : FF} {a : MA} {ws : List Wv} (h1 : a δ S = some (ws, S1)) : mCallF f a δ S = f ws S1 := by unfold mCallF; rw [h1]; rfl
theorem v_bars_in (ok : OkS S) (h : F.Ok) (hp : P.length = F.c) (s : Int) (h0 : 0 ≤ s) (h1 : s < 1000) : g_bars_in [.d (eF F), .d (eP P), .d (.int s)] S = some (.d (eIL (barsN F P s)), S) := by
  have h6 := h.c6
  have hdc := h.dc
  have hul := barsU_len h P s
  refine trim_d (T := [iw (barsU F P s)]) ?_ rfl ok
  refine sem_rt (seq (asgN_v (l := [(3, .d (.int F.c)), (4, .d (.int F.d)), (5, .d (.int F.m))]) rfl rfl) ?_)
  have comp1 : mComp (mRange2 (mBin fAdd (mBin fSub (mVar 2) (mVar 3)) (mVar 4)) (mVar 2)) (nName 7) (mtNot (mTst (mCall g_shows_in (mCons (mVar 0) (mCons (mVar 1) (mCons (mVar 7) mNil)))))) (mBin fMod (mVar 7) (mVar 3)) [7]
      [some (.d (eF F)), some (.d (eP P)), some (.d (.int s)), some (.d (.int F.c)), some (.d (.int F.d)), some (.d (.int F.m)), none, none, none] S = some (iw (winN F P s), S) := by
    refine comp_src (rng (s - F.c + F.d) s) (fun i => .d (.int i)) (fun n => if (!shows F P n) = true then some (n % F.c) else none) (fun i => .d (.int i)) (src_range2 rfl rfl ⟨by omega, by omega, by omega, by omega⟩) (by rw [rng_length]; omega) fun x hx => ⟨_, rfl, ?_⟩
    have c : mtNot (mTst (mCall g_shows_in (mCons (mVar 0) (mCons (mVar 1) (mCons (mVar 7) mNil))))) (setsD (wipeD [some (.d (eF F)), some (.d (eP P)), some (.d (.int s)), some (.d (.int F.c)), some (.d (.int F.d)), some (.d (.int F.m)), none, none, none] [7]) [(7, .d (.int x))]) S = some (!shows F P x, S) := mtNot_b (mTst_b (cl rfl (v_shows_in h hp x)))
    cases q : shows F P x with
    | true => rw [q] at c; exact .inl ⟨rfl, c⟩
    | false => rw [q] at c; exact .inr ⟨_, rfl, c, mBin_v rfl rfl (fMod_v x (c := F.c) (by have := h.c2; omega))⟩
  refine seq (mSet_v (mMut_v comp1)) ?_
  obtain ⟨δ2, S2, e2, y, z, rfl, rfl⟩ := for_inv (n := nName 7)
    (b := mSeq (mSet 8 (mOr (mCall g_shows_in (mCons (mVar 0) (mCons (mVar 1) (mCons (mVar 7) mNil)))) (mCall g_shows_in (mCons (mVar 0) (mCons (mVar 1) (mCons (mBin fSub (mVar 7) (mVar 3)) mNil)))))) (mIfS (mtAnd (mTst (mBin fNe (mBin fIx (mVar 1) (mBin fMod (mVar 7) (mVar 3))) (mC (.tuple [.str "torn"])))) (mtNot (mTst (mVar 8)))) (mDrop (mAppend (mVar 6) (mBin fMod (mVar 7) (mVar 3)))) mNext))
    (mi := mRange2 (mVar 2) (mBin fAdd (mVar 2) (mVar 4))) (δ := [some (.d (eF F)), some (.d (eP P)), some (.d (.int s)), some (.d (.int F.c)), some (.d (.int F.d)), some (.d (.int F.m)), some (.ref S.length), none, none]) (S := S ++ [iw (winN F P s)])
    (rng s (s + F.d)) (fun i => .d (.int i)) (fun p δ' S' => ∃ y z, δ' = [some (.d (eF F)), some (.d (eP P)), some (.d (.int s)), some (.d (.int F.c)), some (.d (.int F.d)), some (.d (.int F.m)), some (.ref S.length), y, z] ∧ S' = S ++ [iw (winN F P s ++ p.filterMap fun n => if (!decide (cellAt F P n = none) && !(shows F P n || shows F P (n - F.c))) = true then some (n % F.c) else none)]) (J := fun _ => True)
    (src_range2 rfl rfl ⟨by omega, by omega, by omega, by omega⟩) (fun _ _ _ _ => trivial) (by
      rintro p x r δ1 S1 hx ⟨y, z, rfl, rfl⟩
      have hpl : p.length ≤ (rng s (s + F.d)).length := by rw [hx]; simp
      rw [rng_length] at hpl
      have hwl : (winN F P s).length ≤ F.c := Nat.le_trans (by unfold barsU; simp) hul
      generalize hA : (p.filterMap fun n => if (!decide (cellAt F P n = none) && !(shows F P n || shows F P (n - F.c))) = true then some (n % (F.c : Int)) else none) = A
      have hAl : A.length ≤ p.length := by rw [← hA]; exact List.length_filterMap_le _ _
      refine ⟨_, _, _, rfl, ?_, some (.d (.int x)), some (.d (.bool (shows F P x || shows F P (x - F.c)))), rfl, rfl⟩
      rw [List.filterMap_append, hA]
      have c : mtAnd (mTst (mBin fNe (mBin fIx (mVar 1) (mBin fMod (mVar 7) (mVar 3))) (mC (.tuple [.str "torn"])))) (mtNot (mTst (mVar 8)))
          [some (.d (eF F)), some (.d (eP P)), some (.d (.int s)), some (.d (.int F.c)), some (.d (.int F.d)), some (.d (.int F.m)), some (.ref S.length), some (.d (.int x)), some (.d (.bool (shows F P x || shows F P (x - F.c))))] (S ++ [iw (winN F P s ++ A)]) =
          some (!decide (cellAt F P x = none) && !(shows F P x || shows F P (x - F.c)), S ++ [iw (winN F P s ++ A)]) :=
        mtAnd_b (mTst_b (mBin_v (mBin_v rfl (mBin_v rfl rfl (fMod_v x (c := F.c) (by have := h.c2; omega))) (pic_at h hp x)) rfl (fNe_torn _))) fun _ => mtNot_b (mTst_b rfl)
      refine seq (mSet_v (mOr_bb (cl rfl (v_shows_in h hp x)) fun _ => cl rfl (v_shows_in h hp _))) ((mIfS_b c).trans ?_)
      by_cases q : (!decide (cellAt F P x = none) && !(shows F P x || shows F P (x - F.c))) = true
      · rw [if_pos q]
        refine mDrop_v (w := .d .none) ((mAppend_v rfl (mBin_v rfl rfl (fMod_v x (c := F.c) (by have := h.c2; omega))) get_last (by unfold iw; simp; omega)).trans ?_)
        rw [set_last, iw_snoc]
        simp only [List.filterMap_cons, List.filterMap_nil, q, if_true, List.append_assoc]
      · rw [if_neg q]
        simp only [List.filterMap_cons, List.filterMap_nil, q, if_false, Bool.false_eq_true, List.append_nil]
        rfl) ⟨none, none, rfl, by simp⟩
  refine seq e2 (mRet_w (mImm_v ((mCallF_v rfl).trans ?_)))
  exact (cSorted_ref get_last).trans (by rw [iw_eq]; rfl)
theorem v_bars_of {x y : PyData} (ok : OkS S) (h : F.Ok) (hp : P.length = F.c) (hb : g_sure_both [.d x, .d y] S = some (.d (.tuple [eF F, eP P]), S)) (s : Int) (h0 : 0 ≤ s) (h1 : s < F.t) : g_bars [.d x, .d y, .d (.int s)] S = some (.d (.tuple (eIs (barsN F P s))), S) := by
  have ht := h.tle
  exact sem_rt (seq (asgN_v (l := [(3, .d (eF F)), (4, .d (eP P))]) (cl rfl hb) rfl) (mRet_w (cl (mCons_v (cl (mCons_v rfl (mCons_v rfl (mCons_v (cl rfl (v_sure_place h s h0 h1)) rfl))) (v_bars_in ok h hp s h0 (by omega))) rfl) (cTuple_list _))))
theorem v_all_bars (ok : OkS S) (h : F.Ok) (hp : P.length = F.c) : g_all_bars [.d (eF F), .d (eP P)] S = some (.d (.list ((allN F P).map eIL)), S) := by
  have ht := h.tle
  refine sem_rt (mRet_w (mImm_v ?_))
  refine (comp_map (rng 0 F.t) (fun i => .d (.int i)) (barsN F P) (fun l => .d (eIL l)) (src_range1 (turn_v h rfl rfl) ⟨by omega, by omega⟩) (by rw [rng_length]; omega) fun x hx => ⟨_, rfl, cl rfl (v_bars_in ok h hp x (mem_rng.mp hx).1 (by have := (mem_rng.mp hx).2; omega))⟩).trans ?_
  unfold allN
  rw [List.map_map, List.map_map, List.map_map]
  rfl
theorem in_nil_v (L : List (List Int)) : fInB false (.d (.list [])) (.d (.list (L.map eIL))) S = some (.d (.bool (L.any fun l => decide (l = []))), S) := by
  have s1 : SeqAt.shaped (.list []) = true := (shp_eIL []).sh
  have s2 : SeqAt.shaped (.list (L.map eIL)) = true := (shp_list (k := 1) fun x hx => by
    obtain ⟨l, _, rfl⟩ := List.mem_map.mp hx
    exact shp_eIL l).sh
  show (if (SeqAt.shaped (.list []) && SeqAt.shaped (.list (L.map eIL))) = true then some (Wv.d (.bool (false ^^ (L.map eIL).any fun z => PyData.eqv z (.list []))), S) else none) = _
  rw [s1, s2, if_pos (show (true && true) = true from rfl), List.any_map]
  have : ((fun z => PyData.eqv z (.list [])) ∘ eIL) = fun l : List Int => decide (l = []) := by
    funext l
    show PyData.eqv (.list (eIs l)) (.list (eIs [])) = _
    rw [eqv_list, eqvAll_ints]
  rw [this]
  simp
theorem v_can_lie_in (ok : OkS S) (h : F.Ok) (hp : P.length = F.c) : g_can_lie_in [.d (eF F), .d (eP P)] S = some (.d (.bool (canN F P)), S) :=
  sem_rt (mRet_w (mBin_v rfl (cl rfl (v_all_bars ok h hp)) (in_nil_v _)))
theorem v_can_lie_of {x y : PyData} (ok : OkS S) (h : F.Ok) (hp : P.length = F.c) (hb : g_sure_both [.d x, .d y] S = some (.d (.tuple [eF F, eP P]), S)) : g_can_lie [.d x, .d y] S = some (.d (.bool (canN F P)), S) :=
  sem_rt (seq (asgN_v (l := [(2, .d (eF F)), (3, .d (eP P))]) (cl rfl hb) rfl) (mRet_w (cl rfl (v_can_lie_in ok h hp))))
end
/-! life_to -/
def stoodN (F : Fm) (P : Pic) (n : Int) : Note := match cellAt F P n with
  | none => .n0
  | some x => if x.1 = mark F n then x.2 else .n0
def flownN (F : Fm) (P : Pic) (n : Int) : Note × Fate := match cellAt F P n with
  | none => (.n0, .torn)
  | some x => if shows F P (n - F.c) then (.n0, .old) else (x.2, .new)
def manyN (F : Fm) (i : Nat) : Int := if (F.c : Int) ≤ i then i else i + F.t
def toLife (F : Fm) (P : Pic) (i : Nat) : List Ev :=
  (rng 0 (manyN F i)).map (fun n => .write (stoodN F P n)) ++ [.sync] ++ (rng (manyN F i) (manyN F i + F.d)).map (fun n => .write (flownN F P n).1) ++ [.cut ((rng (manyN F i) (manyN F i + F.d)).map fun n => (flownN F P n).2)]
def firstN (F : Fm) (P : Pic) : Option Nat := (allN F P).findIdx? fun l => decide (l = [])
section
variable {S S1 : Sto} {δ δ' : DEnv} {F : Fm} {P : Pic}
theorem v_stood_record (h : F.Ok) (hp : P.length = F.c) (n : Int) : g_stood_record [.d (eF F), .d (eP P), .d (.int n)] S = some (.d (eN (stoodN F P n)), S) := by
  refine sem_rt (mRet_w ((mIf_b (mTst_b (cl rfl (v_shows_in h hp n)))).trans ?_))
  unfold shows stoodN
  have key := pic_at (S := S) h hp n
  cases e : cellAt F P n with
  | none => rfl
  | some x =>
    rw [e] at key
    by_cases q : x.1 = mark F n
    · simp only [q, decide_true, if_true]
      exact mBin_v (mBin_v rfl (mBin_v rfl rfl (fMod_v n (c := F.c) (by have := h.c2; omega))) key) rfl rfl
    · simp only [q, decide_false, if_false, Bool.false_eq_true]
      rfl
def eNF (x : Note × Fate) : PyData := .tuple [eN x.1, eT x.2]
theorem v_flown_at (h : F.Ok) (hp : P.length = F.c) (n : Int) : g_flown_at [.d (eF F), .d (eP P), .d (.int n)] S = some (.d (eNF (flownN F P n)), S) := by
  refine sem_rt (seq (mSet_v (mBin_v rfl (mBin_v rfl rfl (fMod_v n (c := F.c) (by have := h.c2; omega))) (pic_at h hp n))) ?_)
  unfold flownN
  cases e : cellAt F P n with
  | none => exact guard_t (p := true) (mTst_b ((mBin_v rfl rfl (fEq_torn none)).trans (by rfl))) rfl (mRet_w (mTup_2 rfl rfl))
  | some x =>
    refine (guard_f (p := false) (mTst_b ((mBin_v rfl rfl (fEq_torn (some x))).trans (by rfl))) rfl).trans (mRet_w ((mIf_b (mTst_b (cl rfl (v_shows_in h hp (n - F.c))))).trans ?_))
    cases shows F P (n - F.c) with
    | true => exact mTup_2 rfl rfl
    | false => exact mTup_2 rfl rfl
theorem fIndex_v (L : List (List Int)) (i : Nat) (hi : (L.findIdx? fun l => decide (l = [])) = some i) : fIndex (.d (.list (L.map eIL))) (.d (.list [])) S = some (.d (.int (i : Nat)), S) := by
  have s1 : SeqAt.shaped (.list []) = true := (shp_eIL []).sh
  have s2 : SeqAt.shaped (.list (L.map eIL)) = true := (shp_list (k := 1) fun x hx => by
    obtain ⟨l, _, rfl⟩ := List.mem_map.mp hx
    exact shp_eIL l).sh
  show (if (SeqAt.shaped (.list (L.map eIL)) && SeqAt.shaped (.list [])) = true then ((L.map eIL).findIdx? fun z => PyData.eqv z (.list [])).map fun j => (Wv.d (.int (j : Nat)), S) else none) = _
  rw [s1, s2, if_pos (show (true && true) = true from rfl), List.findIdx?_map]
  have : ((fun z => PyData.eqv z (.list [])) ∘ eIL) = fun l : List Int => decide (l = []) := by
    funext l
    show PyData.eqv (.list (eIs l)) (.list (eIs [])) = _
    rw [eqv_list, eqvAll_ints]
  rw [this, hi]
  rfl
theorem firstN_lt {F : Fm} {P : Pic} {i : Nat} (h : firstN F P = some i) : (i : Int) < F.t := by
  unfold firstN at h
  obtain ⟨h1, _⟩ := List.findIdx?_eq_some_iff_getElem.mp h
  rw [allN_len] at h1
  omega
theorem canN_iff : canN F P = (firstN F P).isSome := by
  unfold canN firstN
  rw [List.findIdx?_isSome]
theorem seqX_v {a : MS} {b : MSX} {S' : Sto} {r : Option (Option Fl × Sto)} (h : a δ S = some (.nx δ', S')) (h2 : b δ' S' = r) : mSeqX a b δ S = r := by unfold mSeqX; rw [h]; exact h2
theorem guardX_t {c : MT} {b : MS} {p : Bool} (h : c δ S = some (p, S)) (hp : p = true) : mGuard c b δ S = some (none, S) := by unfold mGuard; rw [h, hp]; rfl
theorem guardX_f {c : MT} {b : MS} {p : Bool} {f : Fl} {S' : Sto} (h : c δ S = some (p, S)) (hp : p = false) (hb : b δ S = some (f, S')) : mGuard c b δ S = some (some f, S') := by
  unfold mGuard
  rw [h, hp, Option.bind_some, if_neg Bool.false_ne_true, hb]
  rfl
theorem semX_none {n : Nat} {m : MSX} {ws : List Wv} {S' : Sto} (h : m (startD n ws) S = some (none, S')) : semX n m ws S = some (none, S') := by unfold semX; rw [h]; rfl
theorem semX_rt {n : Nat} {m : MSX} {ws : List Wv} {w : Wv} {S' : Sto} (h : m (startD n ws) S = some (some (.rt w), S')) : semX n m ws S = some (some w, S') := by unfold semX; rw [h]; rfl
theorem v_life_to_no (ok : OkS S) (h : F.Ok) (hp : PicOk F P) (hc : canN F P = false) : g_life_to [.d (eF F), .d (eP P)] S = some (none, S) :=
  semX_none (seqX_v (asgN_v (l := [(2, .d (eF F)), (3, .d (eP P))]) (cl rfl (v_sure_both h hp)) rfl) (guardX_t (mtNot_b (mTst_b (cl rfl (v_can_lie_in ok h hp.len)))) (by rw [hc]; rfl)))
theorem fCat_w {w1 w2 : Wv} {a b : List PyData} (e1 : w1 = .d (.list a)) (e2 : w2 = .d (.list b)) (h : a.length + b.length ≤ 1000000) : fCat w1 w2 S = some ((a ++ b).map .d, S) := by
  subst e1 e2
  exact fCat_v h
theorem cat_v {a b : ME} {x y : List PyData} (h1 : a δ S = some (.d (.list x), S)) (h2 : b δ S = some (.d (.list y), S)) (h : x.length + y.length ≤ 1000000) : mImm (mBinF fCat a b) δ S = some (.d (.list (x ++ y)), S) := mImm_v (mBinF_v h1 h2 (fCat_v h))
theorem v_life_to_yes (ok : OkS S) (h : F.Ok) (hp : PicOk F P) {i : Nat} (hi : firstN F P = some i) : g_life_to [.d (eF F), .d (eP P)] S = some (some (.d (eL (toLife F P i))), S) := by
  have hl := hp.len
  have h6 := h.c6
  have hdc := h.dc
  have ht := h.tle
  have hil := firstN_lt hi
  have hc : canN F P = true := by rw [canN_iff, hi]; rfl
  have hm : 0 ≤ manyN F i ∧ manyN F i ≤ 48 := by unfold manyN; split <;> omega
  refine semX_rt (seqX_v (asgN_v (l := [(2, .d (eF F)), (3, .d (eP P))]) (cl rfl (v_sure_both h hp)) rfl) (guardX_f (mtNot_b (mTst_b (cl rfl (v_can_lie_in ok h hl)))) (by rw [hc]; rfl) ?_))
  refine seq (mSet_v (mBin_v (cl rfl (v_all_bars ok h hl)) rfl (fIndex_v _ i hi))) ?_
  refine seq (mSet_v (w := .d (.int (manyN F i))) (S' := S) ((mIf_b (mTst_b (p := decide ((F.c : Int) ≤ i)) (mBin_v rfl rfl rfl))).trans ?_)) ?_
  · unfold manyN
    by_cases q : (F.c : Int) ≤ i
    · simp only [q, decide_true, if_true]
      rfl
    · simp only [q, decide_false, if_false, Bool.false_eq_true]
      exact mBin_v rfl (turn_v h rfl rfl) rfl
  generalize hM : manyN F i = M at hm
  have c1 : mComp (mRange1 (mVar 5)) (nName 9) mtYes (mTup (mCons (mC (.str "write")) (mCons (mCall g_stood_record (mCons (mVar 2) (mCons (mVar 3) (mCons (mVar 9) mNil)))) mNil))) [9]
      [some (.d (eF F)), some (.d (eP P)), some (.d (eF F)), some (.d (eP P)), some (.d (.int (i : Nat))), some (.d (.int M)), none, none, none, none, none, none, none] S = some (((rng 0 M).map fun n => Ev.write (stoodN F P n)).map (fun e => .d (eE e)), S) :=
    comp_map (rng 0 M) (fun i => .d (.int i)) (fun n => Ev.write (stoodN F P n)) (fun e => .d (eE e)) (src_range1 rfl ⟨by omega, by omega⟩) (by rw [rng_length]; omega) fun x hx => ⟨_, rfl, mTup_2 rfl (cl rfl (v_stood_record h hl x))⟩
  have e1 : ∀ l : List Ev, (l.map fun e => Wv.d (eE e)) = (l.map eE).map .d := fun l => by rw [List.map_map]; rfl
  rw [e1] at c1
  refine seq (mSet_v (mImm_v c1)) ?_
  generalize hA : (rng 0 M).map (fun n => Ev.write (stoodN F P n)) = A
  have hAl : A.length ≤ 48 := by rw [← hA, List.length_map, rng_length]; omega
  have c2 : mComp (mRange2 (mVar 5) (mBin fAdd (mVar 5) (mBin fIx (mVar 2) (mC (.int 1))))) (nName 9) mtYes (mCall g_flown_at (mCons (mVar 2) (mCons (mVar 3) (mCons (mVar 9) mNil)))) [9]
      [some (.d (eF F)), some (.d (eP P)), some (.d (eF F)), some (.d (eP P)), some (.d (.int (i : Nat))), some (.d (.int M)), some (.d (.list (A.map eE))), none, none, none, none, none, none] S = some (((rng M (M + F.d)).map (flownN F P)).map (fun e => .d (eNF e)), S) :=
    comp_map (rng M (M + F.d)) (fun i => .d (.int i)) (flownN F P) (fun e => .d (eNF e)) (src_range2 rfl rfl ⟨by omega, by omega, by omega, by omega⟩) (by rw [rng_length]; omega) fun x hx => ⟨_, rfl, cl rfl (v_flown_at h hl x)⟩
  have e2 : ∀ l : List (Note × Fate), (l.map fun e => Wv.d (eNF e)) = (l.map eNF).map .d := fun l => by rw [List.map_map]; rfl
  rw [e2] at c2
  refine seq (mSet_v (mImm_v c2)) ?_
  generalize hB : (rng M (M + F.d)).map (flownN F P) = B
  have hBl : B.length ≤ 6 := by rw [← hB, List.length_map, rng_length]; omega
  have src : ∀ δ, mVar 7 δ S = some (.d (.list (B.map eNF)), S) → Src (mIter (mVar 7)) δ S (B.map fun e => .d (eNF e)) (fun S' => S' = S) := fun δ hh => by
    have := src_list (J := fun S' => S' = S) hh
    rw [List.map_map] at this
    exact this
  have c3 : mComp (mIter (mVar 7)) (nTup (nCons (nName 10) (nCons (nName 11) nNil))) mtYes (mTup (mCons (mC (.str "write")) (mCons (mVar 10) mNil))) [10, 11]
      [some (.d (eF F)), some (.d (eP P)), some (.d (eF F)), some (.d (eP P)), some (.d (.int (i : Nat))), some (.d (.int M)), some (.d (.list (A.map eE))), some (.d (.list (B.map eNF))), none, none, none, none, none] S = some ((B.map fun x => Ev.write x.1).map (fun e => .d (eE e)), S) :=
    comp_map B (fun e => .d (eNF e)) (fun x => Ev.write x.1) (fun e => .d (eE e)) (src _ rfl) (by omega) fun x hx => ⟨[(10, .d (eN x.1)), (11, .d (eT x.2))], rfl, mTup_2 rfl rfl⟩
  rw [e1] at c3
  refine seq (mSet_v (mImm_v c3)) ?_
  have c4 : mComp (mIter (mVar 7)) (nTup (nCons (nName 11) (nCons (nName 12) nNil))) mtYes (mVar 12) [11, 12]
      [some (.d (eF F)), some (.d (eP P)), some (.d (eF F)), some (.d (eP P)), some (.d (.int (i : Nat))), some (.d (.int M)), some (.d (.list (A.map eE))), some (.d (.list (B.map eNF))), some (.d (.list ((B.map fun x => Ev.write x.1).map eE))), none, none, none, none] S = some ((B.map fun x => x.2).map (fun e => .d (eT e)), S) :=
    comp_map B (fun e => .d (eNF e)) (fun x => x.2) (fun e => .d (eT e)) (src _ rfl) (by omega) fun x hx => ⟨[(11, .d (eN x.1)), (12, .d (eT x.2))], rfl, rfl⟩
  have e3 : ∀ l : List Fate, (l.map fun e => Wv.d (eT e)) = (l.map eT).map .d := fun l => by rw [List.map_map]; rfl
  rw [e3] at c4
  refine mRet_w (cl (mCons_v (cat_v (cat_v (cat_v rfl (mImm_v (ds := [eE .sync]) rfl) ?_) rfl ?_) (mImm_v (ds := [eE (.cut (B.map fun x => x.2))]) ?_) ?_) rfl) ((cTuple_list _).trans ?_))
  · simp; omega
  · simp; omega
  · have : mTup (mCons (mC (.str "cut")) (mCons (mCall cTuple (mCons (mImm (mComp (mIter (mVar 7)) (nTup (nCons (nName 11) (nCons (nName 12) nNil))) mtYes (mVar 12) [11, 12])) mNil)) mNil))
        [some (.d (eF F)), some (.d (eP P)), some (.d (eF F)), some (.d (eP P)), some (.d (.int (i : Nat))), some (.d (.int M)), some (.d (.list (A.map eE))), some (.d (.list (B.map eNF))), some (.d (.list ((B.map fun x => Ev.write x.1).map eE))), none, none, none, none] S = some (.d (eE (.cut (B.map fun x => x.2))), S) := mTup_2 rfl (cl (mCons_v (mImm_v c4) rfl) (cTuple_list _))
    exact mLst_1 this
  · simp; omega
  · unfold eL toLife
    rw [hM, hA]
    have b1 : ((rng M (M + F.d)).map fun n => Ev.write (flownN F P n).1) = B.map fun x => Ev.write x.1 := by rw [← hB, List.map_map]; rfl
    have b2 : ((rng M (M + F.d)).map fun n => (flownN F P n).2) = B.map fun x => x.2 := by rw [← hB, List.map_map]; rfl
    rw [b1, b2]
    simp
end
end K15
set_option Elab.async false
set_option linter.all false
set_option maxRecDepth 100000
set_option maxHeartbeats 4000000
set_option autoImplicit false
namespace K15
open PySem PySem.Spec PyProof.Rows L2
def isLifeN (F : Fm) (P : Pic) (L : List Ev) : Bool := match lifeN F L with
  | none => false
  | some s => decide (s.P = P)
def isReasonN (F : Fm) (P : Pic) (ws : List Int) : Bool := decide ((ws.length : Int) = F.t) && (ws.zip (allN F P)).all fun p => decide (p.1 ∈ p.2)
section
variable {S S1 : Sto} {δ δ' : DEnv} {F : Fm} {P : Pic}
theorem fIx_list {ds : List PyData} {i : Int} {k : Nat} {x : PyData} (hi : i = k) (h : ds[k]? = some x) : fIx (.d (.list ds)) (.d (.int i)) S = some (.d x, S) := by
  show (some (ds.map Wv.d)).bind (fun ws => (atI ws i).map fun u => (u, S)) = _
  rw [Option.bind_some, atI_nat hi (show (ds.map Wv.d)[k]? = some (.d x) by rw [List.getElem?_map, h]; rfl)]
  rfl
theorem fIx_ref {n : Nat} {ws : List Wv} {i : Int} {k : Nat} {w : Wv} (hn : S[n]? = some ws) (hi : i = k) (h : ws[k]? = some w) : fIx (.ref n) (.d (.int i)) S = some (w, S) := by
  show (S[n]?).bind (fun ws => (atI ws i).map fun u => (u, S)) = _
  rw [hn, Option.bind_some, atI_nat hi h]
  rfl
theorem v_is_life_to_of {x y : PyData} (ok : OkS S) (h : F.Ok) (hb : g_sure_both [.d x, .d y] S = some (.d (.tuple [eF F, eP P]), S)) (L : List Ev) (hL : ∀ e ∈ L, EvOk e) :
    g_is_life_to [.d x, .d y, .d (eL L)] S = some (.d (.bool (isLifeN F P L)), S) := by
  refine sem_rt (seq (asgN_v (l := [(3, .d (eF F)), (4, .d (eP P))]) (cl rfl hb) rfl) (seq (mSet_v ((mIf_t (S1 := S) (mTst_b (p := true) rfl)).trans (cl rfl (v_life_in ok h L hL)))) (mRet_w ?_)))
  unfold isLifeN
  cases e : lifeN F L with
  | none => rfl
  | some s => exact (mAnd_bb (p := true) (mBin_v rfl rfl rfl) fun _ => mBin_v rfl rfl (fEq_of (sh_P s.P) (sh_P P) (eqv_P s.P P))).trans rfl
theorem v_is_life_to_list {x y : PyData} (hb : g_sure_both [.d x, .d y] S = some (.d (.tuple [eF F, eP P]), S)) (ds : List PyData) :
    g_is_life_to [.d x, .d y, .d (.list ds)] S = some (.d (.bool false), S) := by
  refine sem_rt (seq (asgN_v (l := [(3, .d (eF F)), (4, .d (eP P))]) (cl rfl hb) rfl) (seq (mSet_v (w := .d .none) ((mIf_f (S1 := S) (mTst_b (p := false) rfl)).trans rfl)) (mRet_w ?_)))
  rfl
theorem v_reason_no (ok : OkS S) (h : F.Ok) (hp : PicOk F P) (hc : canN F P = true) : g_reason [.d (eF F), .d (eP P)] S = some (none, S) :=
  semX_none (seqX_v (asgN_v (l := [(2, .d (eF F)), (3, .d (eP P))]) (cl rfl (v_sure_both h hp)) rfl) (seqX_v (mSet_v (cl rfl (v_all_bars ok h hp.len))) (guardX_t (mTst_b (mBin_v rfl rfl (in_nil_v _))) hc)))
def reasonN (F : Fm) (P : Pic) : List Int := (allN F P).map fun l => l.headD 0
theorem v_reason_yes (ok : OkS S) (h : F.Ok) (hp : PicOk F P) (hc : canN F P = false) : g_reason [.d (eF F), .d (eP P)] S = some (some (.d (.tuple (eIs (reasonN F P)))), S) := by
  have ht := h.tle
  refine semX_rt (seqX_v (asgN_v (l := [(2, .d (eF F)), (3, .d (eP P))]) (cl rfl (v_sure_both h hp)) rfl) (seqX_v (mSet_v (cl rfl (v_all_bars ok h hp.len))) (guardX_f (mTst_b (mBin_v rfl rfl (in_nil_v _))) hc (mRet_w ?_))))
  refine cl (mCons_v (mImm_v (ds := eIs (reasonN F P)) ((comp_map (allN F P) (fun l => .d (eIL l)) (fun l => l.headD 0) (fun i => .d (.int i)) ?_ (by rw [allN_len]; omega) fun x hx => ⟨_, rfl, ?_⟩).trans ?_)) rfl) (cTuple_list _)
  · have := src_list (a := mVar 4) (δ := [some (.d (eF F)), some (.d (eP P)), some (.d (eF F)), some (.d (eP P)), some (.d (.list ((allN F P).map eIL)))]) (S := S) (ds := (allN F P).map eIL) (J := fun S' => S' = S) rfl
    rw [List.map_map] at this
    exact this
  · cases x with
    | nil =>
      have : canN F P = true := by
        unfold canN
        rw [List.any_eq_true]
        exact ⟨[], hx, by simp⟩
      rw [hc] at this
      cases this
    | cons a l => exact mBin_v rfl rfl (fIx_list (k := 0) rfl rfl)
  · rw [← iw_eq]; rfl
theorem in_int_v (i : Int) (l : List Int) : fInB false (.d (.int i)) (.d (eIL l)) S = some (.d (.bool (decide (i ∈ l))), S) := by
  have s2 : SeqAt.shaped (.list (eIs l)) = true := (shp_eIL l).sh
  show (if (SeqAt.shaped (.int i) && SeqAt.shaped (.list (eIs l))) = true then some (Wv.d (.bool (false ^^ (eIs l).any fun z => PyData.eqv z (.int i))), S) else none) = _
  rw [sh_int, s2, if_pos (show (true && true) = true from rfl)]
  have : ((eIs l).any fun z => PyData.eqv z (.int i)) = decide (i ∈ l) := by
    unfold eIs
    rw [List.any_map]
    induction l with
    | nil => simp
    | cons a l ih =>
      rw [List.any_cons, ih (shp_eIL l).sh]
      show (PyData.eqv (.int a) (.int i) || _) = _
      rw [eqv_int]
      by_cases e : a = i
      · simp [e]
      · have : ¬ i = a := fun z => e z.symm
        simp [e, this]
  rw [this]
  simp
theorem v_is_reason_of {x y : PyData} (ok : OkS S) (h : F.Ok) (hp : P.length = F.c) (hb : g_sure_both [.d x, .d y] S = some (.d (.tuple [eF F, eP P]), S)) (ws : List Int) (hw : ws.length < 1000) :
    g_is_reason [.d x, .d y, .d (.tuple (eIs ws))] S = some (.d (.bool (isReasonN F P ws)), S) := by
  have ht := h.tle
  have hal := allN_len F P
  refine sem_rt (seq (asgN_v (l := [(3, .d (eF F)), (4, .d (eP P))]) (cl rfl hb) rfl) (seq (mSet_v (cl rfl (v_all_bars ok h hp))) ?_))
  have hlen : mCall cLen (mCons (mVar 5) mNil) [some (.d x), some (.d y), some (.d (.tuple (eIs ws))), some (.d (eF F)), some (.d (eP P)), some (.d (.list ((allN F P).map eIL)))] S = some (.d (.int F.t), S) := by
    refine (cl rfl (cLen_list _)).trans ?_
    rw [List.length_map, hal]
    have : ((F.t.toNat : Nat) : Int) = F.t := by omega
    rw [this]
  have a1 : mTst (mCall cAll (mCons (mImm (mComp (mIter (mVar 2)) (nName 3) mtYes (mCall g_is_number (mCons (mVar 3) mNil)) [3])) mNil)) [some (.d x), some (.d y), some (.d (.tuple (eIs ws))), some (.d (eF F)), some (.d (eP P)), some (.d (.list ((allN F P).map eIL)))] S = some (true, S) := by
    refine mTst_b ((all_v ws (fun i => .d (.int i)) (fun _ => true) ?_ (by omega) fun x hx => ⟨_, rfl, cl rfl (v_is_number x)⟩).trans ?_)
    · have := src_tup (a := mVar 2) (δ := [some (.d x), some (.d y), some (.d (.tuple (eIs ws))), some (.d (eF F)), some (.d (eP P)), some (.d (.list ((allN F P).map eIL)))]) (S := S) (ds := eIs ws) (J := fun S' => S' = S) rfl
      unfold eIs at this
      rw [List.map_map] at this
      exact this
    · simp
  have c : mtOr (mtNot (mTst (mCall g_is_long (mCons (mVar 2) (mCons (mCall cLen (mCons (mVar 5) mNil)) mNil))))) (mtNot (mTst (mCall cAll (mCons (mImm (mComp (mIter (mVar 2)) (nName 3) mtYes (mCall g_is_number (mCons (mVar 3) mNil)) [3])) mNil))))
      [some (.d x), some (.d y), some (.d (.tuple (eIs ws))), some (.d (eF F)), some (.d (eP P)), some (.d (.list ((allN F P).map eIL)))] S = some (!decide (((eIs ws).length : Int) = F.t) || !true, S) :=
    mtOr_b (mtNot_b (mTst_b (cl (mCons_v rfl (mCons_v hlen rfl)) (v_is_long _ _)))) fun _ => mtNot_b a1
  have le : ((eIs ws).length : Int) = ws.length := by unfold eIs; simp
  rw [le] at c
  unfold isReasonN
  by_cases q : (ws.length : Int) = F.t
  · refine (guard_f c (by simp [q])).trans (mRet_w ?_)
    refine (all_v (ws.zip (allN F P)) (fun p => .d (.tuple [.int p.1, eIL p.2])) (fun p => decide (p.1 ∈ p.2)) ?_ (by simp; omega) fun x hx => ⟨[(3, .d (.int x.1)), (4, .d (eIL x.2))], rfl, mBin_v rfl rfl (in_int_v _ _)⟩).trans ?_
    · have := src_zip (a := mVar 2) (b := mVar 5) (δ := [some (.d x), some (.d y), some (.d (.tuple (eIs ws))), some (.d (eF F)), some (.d (eP P)), some (.d (.list ((allN F P).map eIL)))]) (S := S) (ds := eIs ws) (es := (allN F P).map eIL) (w1 := .d (.tuple (eIs ws))) (w2 := .d (.list ((allN F P).map eIL))) (J := fun S' => S' = S) rfl rfl ⟨seqOf_tup, seqOf_list⟩ (fun S' _ => ⟨seqOf_tup, seqOf_list⟩) (by rw [List.length_map, hal]; unfold eIs; rw [List.length_map]; omega)
      unfold eIs at this
      rw [prs_map, List.map_map] at this
      exact this
    · rw [decide_eq_true q]
      simp
  · rw [decide_eq_false q] at c ⊢
    exact guard_t c rfl (mRet_w rfl)
theorem v_is_reason_list {x y : PyData} (ok : OkS S) (h : F.Ok) (hp : P.length = F.c) (hb : g_sure_both [.d x, .d y] S = some (.d (.tuple [eF F, eP P]), S)) (z : PyData) (hz : isiAny (.d z) [.tuple] = some false) :
    g_is_reason [.d x, .d y, .d z] S = some (.d (.bool false), S) := by
  refine sem_rt (seq (asgN_v (l := [(3, .d (eF F)), (4, .d (eP P))]) (cl rfl hb) rfl) (seq (mSet_v (cl rfl (v_all_bars ok h hp))) ?_))
  refine guard_t (p := true) ((mtOr_b (p := true) (q := true) (mtNot_b (p := false) (mTst_b (cl (mCons_v rfl (mCons_v (cl rfl (cLen_list _)) rfl)) ?_))) (fun q => by cases q)).trans rfl) rfl (mRet_w rfl)
  refine sem_rt (mRet_w ?_)
  refine (mAnd_bb (p := false) (q := false) ?_ (fun q => by cases q)).trans rfl
  have : isiW (.d z) .tuple = some false := by
    unfold isiAny at hz
    cases e : isiW (.d z) .tuple with
    | none => rw [e] at hz; cases hz
    | some b =>
      cases b with
      | true => rw [e] at hz; cases hz
      | false => rfl
  show (isiW (.d z) .tuple).map _ = _
  rw [this]
  rfl
end
end K15
set_option Elab.async false
set_option linter.all false
set_option maxRecDepth 100000
set_option maxHeartbeats 4000000
set_option autoImplicit false
namespace K15
open PySem PySem.Spec PyProof.Rows L2
/-- a face: a tuple or a list of the store -/
def Face (w : Wv) (P : Pic) (S : Sto) : Prop := w = .d (eP P) ∨ ∃ n, w = .ref n ∧ S[n]? = some (cw P)
theorem Face.app {w : Wv} {P : Pic} {S : Sto} (h : Face w P S) (T : Sto) : Face w P (S ++ T) := by
  rcases h with h | ⟨n, h, e⟩
  · exact .inl h
  · exact .inr ⟨n, h, by rw [List.getElem?_append_left (List.getElem?_eq_some_iff.mp e).1]; exact e⟩
def wholeN (F : Fm) (P : Pic) (n : Int) : Bool := (rng 1 ((F.c : Int) - F.d + 1)).all fun j => shows F P (n - j)
def wholesN (F : Fm) (P : Pic) : List Int := (rng 0 F.t).filterMap fun n => if wholeN F P n = true then some n else none
def laterAt (W : List Int) (t : Int) (k : Nat) : Int := if k + 1 < W.length then (W[k + 1]?).getD 0 else (W[0]?).getD 0 + t
def answerG (F : Fm) (P : Pic) : Option Int := ansN (farN F.d F.t (wholesN F P))
theorem zip_idx (W L : List Int) (h : L.length = W.length) : W.zip L = W.zipIdx.map fun p => (p.1, (L[p.2]?).getD 0) := by
  apply List.ext_getElem
  · simp [h]
  · intro i h1 h2
    simp at h1 h2
    simp
    rw [List.getElem?_eq_getElem (by omega)]
    rfl
theorem map_idx (W : List Int) : (eIs W).zipIdx = W.zipIdx.map fun p => (PyData.int p.1, p.2) := by
  unfold eIs
  rw [List.zipIdx_map]
  rfl
theorem later_at (W : List Int) (t : Int) (k : Nat) (hk : k < W.length) : ((laterN t W)[k]?).getD 0 = laterAt W t k := by
  unfold laterN laterAt
  by_cases h : k + 1 < W.length
  · rw [if_pos h, List.getElem?_append_left (by simp; omega), List.getElem?_drop, Nat.add_comm]
  · rw [if_neg h, List.getElem?_append_right (by simp; omega)]
    have e : k - (W.drop 1).length = 0 := by simp; omega
    rw [e, List.getElem?_map, List.getElem?_take]
    have h0 : 0 < W.length := by omega
    simp [List.getElem?_eq_getElem h0]
theorem fm_congr {α β : Type} {f g : α → Option β} : ∀ {l : List α}, (∀ x ∈ l, f x = g x) → l.filterMap f = l.filterMap g
  | [], _ => rfl
  | a :: l, h => by
    rw [List.filterMap_cons, List.filterMap_cons, h a (by simp), fm_congr fun x hx => h x (by simp [hx])]
theorem farN_idx (d t : Int) (W : List Int) : farN d t W = W.zipIdx.filterMap fun p => if d < laterAt W t p.2 - p.1 then some p.1 else none := by
  unfold farN gapsN
  rw [zip_idx W _ (laterN_len t W), List.map_map, List.filterMap_map]
  refine fm_congr fun p hp => ?_
  obtain ⟨x, k⟩ := p
  have hk := (List.mem_zipIdx hp)
  simp only [Function.comp]
  rw [later_at W t k (by simpa using hk.2.1)]
theorem wholesN_len {F : Fm} (h : F.Ok) (P : Pic) : (wholesN F P).length ≤ 24 := by
  have := h.tle
  refine Nat.le_trans (List.length_filterMap_le _ _) ?_
  rw [rng_length]
  omega
section
variable {S S1 : Sto} {δ δ' : DEnv} {F : Fm} {P : Pic} {w : Wv}
theorem cLen_pic {h : Face w P S} : True := trivial
theorem face_at (h : F.Ok) (hp : P.length = F.c) (hw : Face w P S) (n : Int) : fIx w (.d (.int (n % F.c))) S = some (.d (eC (cellAt F P n)), S) := by
  rcases hw with rfl | ⟨k, rfl, e⟩
  · exact pic_at h hp n
  · have h1 : 0 ≤ n % (F.c : Int) := Int.emod_nonneg _ (by have := h.c2; omega)
    exact fIx_ref e (k := idx F n) (by unfold idx; omega) (by unfold cw; rw [List.getElem?_map, cellAt_get h hp]; rfl)
theorem v_lap (h : F.Ok) (n : Int) : g__law_lap [.d (eF F), .d (.int n)] S = some (.d (.int (mark F n)), S) :=
  sem_rt (mRet_w (mBin_v (mBin_v rfl rfl (fDiv_v n (c := F.c) (by have := h.c2; omega) (by have := h.c6; omega))) rfl (fMod_v _ (c := F.m) h.m1)))
theorem v_shows (h : F.Ok) (hp : P.length = F.c) (hw : Face w P S) (n : Int) : g__law_shows [.d (eF F), w, .d (.int n)] S = some (.d (.bool (shows F P n)), S) := by
  refine sem_rt (seq (mSet_v (mBin_v rfl (mBin_v rfl rfl (fMod_v n (c := F.c) (by have := h.c2; omega))) (face_at h hp hw n))) (mRet_w ?_))
  refine (mAnd_bb (p := !decide (cellAt F P n = none)) (q := shows F P n) (mBin_v rfl rfl (fNe_torn _)) fun hh => ?_).trans ?_
  · unfold shows
    cases e : cellAt F P n with
    | none => rw [e] at hh; simp at hh
    | some x =>
      refine mBin_v (w1 := .d (.int x.1)) ?_ (cl rfl (v_lap h n)) (fEq_int _ _)
      rfl
  · unfold shows
    cases e : cellAt F P n <;> simp
theorem eq_nil_v {a : ME} {ds : List PyData} {k : Nat} (ha : a δ S = some (.d (.list ds), S)) (hs : ∀ x ∈ ds, shp k x) (hk : k < 60) : mBin fEq a (mImm (mLst mNil)) δ S = some (.d (.bool (decide (ds = []))), S) := by
  refine mBin_v ha rfl (fEq_of ((shp_list hs).sh (by omega)) (shp_eIL []).sh ?_)
  show PyData.eqv (.list ds) (.list []) = _
  rw [eqv_list]
  cases ds with
  | nil => rw [PyData.eqvAll]; simp
  | cons a l => rw [PyData.eqvAll]; simp
theorem filterMap_nil_iff {α β : Type} (l : List α) (f : α → Bool) (g : α → β) : decide ((l.filterMap fun x => if f x = true then none else some (g x)) = []) = l.all f := by
  induction l with
  | nil => rfl
  | cons a l ih =>
    rw [List.filterMap_cons, List.all_cons]
    cases h : f a with
    | true => simp only [if_true]; rw [ih]; rfl
    | false => simp
theorem v_wholes (ok : OkS S) (h : F.Ok) (hp : P.length = F.c) (hw : Face w P S) : g__law_wholes [.d (eF F), w] S = some (.d (.list (eIs (wholesN F P))), S) := by
  have ht := h.tle
  have h6 := h.c6
  have hdc := h.dc
  refine trim_l (T := [iw (wholesN F P)]) (l := S.length) ?_ rfl ok (Nat.le_refl _) (by rw [get_last, iw_eq])
  refine sem_rt (seq (mPar_v (mCons_v rfl (mCons_v (turn_v h rfl rfl) rfl))) (seq (mSet_v (mMut_v (ws := []) rfl)) ?_))
  obtain ⟨δ2, S2, e2, y, rfl, rfl⟩ := for_inv (n := nName 5)
    (b := mIfS (mTst (mBin fEq (mImm (mComp (mRange2 (mC (.int 1)) (mBin fAdd (mVar 2) (mC (.int 1)))) (nName 6) (mtNot (mTst (mCall g__law_shows (mCons (mVar 0) (mCons (mVar 1) (mCons (mBin fSub (mVar 5) (mVar 6)) mNil)))))) (mVar 6) [6])) (mImm (mLst mNil)))) (mDrop (mAppend (mVar 4) (mVar 5))) mNext)
    (mi := mRange1 (mVar 3)) (δ := [some (.d (eF F)), some w, some (.d (.int ((F.c : Int) - F.d))), some (.d (.int F.t)), some (.ref S.length), none, none]) (S := S ++ [[]])
    (rng 0 F.t) (fun i => .d (.int i)) (fun p δ' S' => ∃ y, δ' = [some (.d (eF F)), some w, some (.d (.int ((F.c : Int) - F.d))), some (.d (.int F.t)), some (.ref S.length), y, none] ∧ S' = S ++ [iw (p.filterMap fun n => if wholeN F P n = true then some n else none)]) (J := fun _ => True)
    (src_range1 rfl ⟨by omega, by omega⟩) (fun _ _ _ _ => trivial) (by
      rintro p x r δ1 S1 hx ⟨y, rfl, rfl⟩
      have hpl : p.length ≤ (rng 0 F.t).length := by rw [hx]; simp
      rw [rng_length] at hpl
      generalize hA : (p.filterMap fun n => if wholeN F P n = true then some n else none) = A
      have hAl : A.length ≤ p.length := by rw [← hA]; exact List.length_filterMap_le _ _
      refine ⟨_, _, _, rfl, ?_, some (.d (.int x)), rfl, rfl⟩
      rw [List.filterMap_append, hA]
      have hw2 : Face w P (S ++ [iw A]) := hw.app _
      have c0 : mComp (mRange2 (mC (.int 1)) (mBin fAdd (mVar 2) (mC (.int 1)))) (nName 6) (mtNot (mTst (mCall g__law_shows (mCons (mVar 0) (mCons (mVar 1) (mCons (mBin fSub (mVar 5) (mVar 6)) mNil)))))) (mVar 6) [6]
          [some (.d (eF F)), some w, some (.d (.int ((F.c : Int) - F.d))), some (.d (.int F.t)), some (.ref S.length), some (.d (.int x)), none] (S ++ [iw A]) = some (((rng 1 ((F.c : Int) - F.d + 1)).filterMap fun j => if shows F P (x - j) = true then none else some j).map fun i => .d (.int i), S ++ [iw A]) := by
        refine comp_src (rng 1 ((F.c : Int) - F.d + 1)) (fun i => .d (.int i)) (fun j => if shows F P (x - j) = true then none else some j) (fun i => .d (.int i)) (src_range2 rfl rfl ⟨by omega, by omega, by omega, by omega⟩) (by rw [rng_length]; omega) fun j hj => ⟨_, rfl, ?_⟩
        have c : mtNot (mTst (mCall g__law_shows (mCons (mVar 0) (mCons (mVar 1) (mCons (mBin fSub (mVar 5) (mVar 6)) mNil))))) (setsD (wipeD [some (.d (eF F)), some w, some (.d (.int ((F.c : Int) - F.d))), some (.d (.int F.t)), some (.ref S.length), some (.d (.int x)), none] [6]) [(6, .d (.int j))]) (S ++ [iw A]) = some (!shows F P (x - j), S ++ [iw A]) := mtNot_b (mTst_b (cl rfl (v_shows h hp hw2 _)))
        cases q : shows F P (x - j) with
        | true => rw [q] at c; exact .inl ⟨rfl, c⟩
        | false => rw [q] at c; exact .inr ⟨_, rfl, c, rfl⟩
      have c1 : mTst (mBin fEq (mImm (mComp (mRange2 (mC (.int 1)) (mBin fAdd (mVar 2) (mC (.int 1)))) (nName 6) (mtNot (mTst (mCall g__law_shows (mCons (mVar 0) (mCons (mVar 1) (mCons (mBin fSub (mVar 5) (mVar 6)) mNil)))))) (mVar 6) [6])) (mImm (mLst mNil)))
          [some (.d (eF F)), some w, some (.d (.int ((F.c : Int) - F.d))), some (.d (.int F.t)), some (.ref S.length), some (.d (.int x)), none] (S ++ [iw A]) = some (wholeN F P x, S ++ [iw A]) := by
        refine (mTst_b (eq_nil_v (ds := eIs ((rng 1 ((F.c : Int) - F.d + 1)).filterMap fun j => if shows F P (x - j) = true then none else some j)) (mImm_v (c0.trans ?_)) (shp_eIs _) (by omega))).trans ?_
        · rw [← iw_eq]; rfl
        · unfold wholeN
          rw [← filterMap_nil_iff (rng 1 ((F.c : Int) - F.d + 1)) (fun j => shows F P (x - j)) (fun j => j)]
          congr 2
          unfold eIs
          simp
      refine (mIfS_b c1).trans ?_
      cases q : wholeN F P x with
      | true =>
        rw [if_pos rfl]
        refine mDrop_v (w := .d .none) ((mAppend_v rfl rfl get_last (by unfold iw; simp; omega)).trans ?_)
        rw [set_last, iw_snoc]
        simp only [List.filterMap_cons, List.filterMap_nil, q, if_true]
      | false =>
        rw [if_neg Bool.false_ne_true]
        simp only [List.filterMap_cons, List.filterMap_nil, q, if_false, Bool.false_eq_true, List.append_nil]
        rfl) ⟨none, rfl, rfl⟩
  exact seq e2 (mRet_w rfl)
theorem v_answer (ok : OkS S) (h : F.Ok) (hp : P.length = F.c) (hw : Face w P S) : g__law_answer [.d (eF F), w] S = some (.d (eO (answerG F P)), S) := by
  have hl := wholesN_len h P
  unfold answerG
  generalize hW : wholesN F P = W at hl
  refine trim_d (T := [iw (farN F.d F.t W)]) ?_ rfl ok
  refine sem_rt (seq (mPar_v (mCons_v (cl rfl ((v_wholes ok h hp hw).trans (by rw [hW]))) (mCons_v (turn_v h rfl rfl) rfl))) (seq (mSet_v (mMut_v (ws := []) rfl)) ?_))
  obtain ⟨δ2, S2, e2, x, y, z, rfl, rfl⟩ := for_inv (n := nTup (nCons (nName 5) (nCons (nName 6) nNil)))
    (b := mSeq (mSet 7 (mIf (mTst (mBin fLt (mBin fAdd (mVar 5) (mC (.int 1))) (mCall cLen (mCons (mVar 2) mNil)))) (mBin fIx (mVar 2) (mBin fAdd (mVar 5) (mC (.int 1)))) (mBin fAdd (mBin fIx (mVar 2) (mC (.int 0))) (mVar 3)))) (mIfS (mTst (mBin fGt (mBin fSub (mVar 7) (mVar 6)) (mBin fIx (mVar 0) (mC (.int 1))))) (mDrop (mAppend (mVar 4) (mVar 6))) mNext))
    (mi := mEnum (mVar 2)) (δ := [some (.d (eF F)), some w, some (.d (.list (eIs W))), some (.d (.int F.t)), some (.ref S.length), none, none, none]) (S := S ++ [[]])
    W.zipIdx (fun p => .d (.tuple [.int (p.2 : Nat), .int p.1])) (fun p δ' S' => ∃ x y z, δ' = [some (.d (eF F)), some w, some (.d (.list (eIs W))), some (.d (.int F.t)), some (.ref S.length), x, y, z] ∧ S' = S ++ [iw (p.filterMap fun p => if (F.d : Int) < laterAt W F.t p.2 - p.1 then some p.1 else none)]) (J := fun _ => True)
    (by
      have := src_enum (a := mVar 2) (δ := [some (.d (eF F)), some w, some (.d (.list (eIs W))), some (.d (.int F.t)), some (.ref S.length), none, none, none]) (S := S ++ [[]]) (ds := eIs W) (w := .d (.list (eIs W))) (J := fun _ => True) rfl rfl (fun _ _ => rfl)
      rw [map_idx, List.map_map] at this
      exact this) (fun _ _ _ _ => trivial) (by
      rintro p ⟨a, k⟩ r δ1 S1 hx ⟨x, y, z, rfl, rfl⟩
      have hk : k < W.length ∧ W[k]? = some a := by
        have := List.mem_zipIdx (show (a, k) ∈ W.zipIdx by rw [hx]; simp)
        have h2 : k < W.length := by simpa using this.2.1
        exact ⟨h2, by rw [List.getElem?_eq_getElem h2]; have := this.2.2; simp at this; rw [this]⟩
      have hpl : p.length ≤ W.zipIdx.length := by rw [hx]; simp
      rw [List.length_zipIdx] at hpl
      generalize hA : (p.filterMap fun p : Int × Nat => if (F.d : Int) < laterAt W F.t p.2 - p.1 then some p.1 else none) = A
      have hAl : A.length ≤ p.length := by rw [← hA]; exact List.length_filterMap_le _ _
      refine ⟨_, _, _, rfl, ?_, some (.d (.int k)), some (.d (.int a)), some (.d (.int (laterAt W F.t k))), rfl, rfl⟩
      rw [List.filterMap_append, hA]
      have lat : mIf (mTst (mBin fLt (mBin fAdd (mVar 5) (mC (.int 1))) (mCall cLen (mCons (mVar 2) mNil)))) (mBin fIx (mVar 2) (mBin fAdd (mVar 5) (mC (.int 1)))) (mBin fAdd (mBin fIx (mVar 2) (mC (.int 0))) (mVar 3))
          [some (.d (eF F)), some w, some (.d (.list (eIs W))), some (.d (.int F.t)), some (.ref S.length), some (.d (.int k)), some (.d (.int a)), z] (S ++ [iw A]) = some (.d (.int (laterAt W F.t k)), S ++ [iw A]) := by
        refine (mIf_b (mTst_b (p := decide ((k : Int) + 1 < ((eIs W).length : Nat))) (mBin_v rfl (cl rfl (cLen_list _)) rfl))).trans ?_
        have le : (eIs W).length = W.length := by unfold eIs; simp
        have ge : ∀ j, j < W.length → (eIs W)[j]? = some (.int ((W[j]?).getD 0)) := fun j hj => by
          unfold eIs
          rw [List.getElem?_map, List.getElem?_eq_getElem hj]
          rfl
        rw [le]
        unfold laterAt
        by_cases q : k + 1 < W.length
        · have q2 : (k : Int) + 1 < (W.length : Nat) := by omega
          rw [if_pos q, if_pos (decide_eq_true q2)]
          exact mBin_v rfl rfl (fIx_list (k := k + 1) (by omega) (ge _ q))
        · have q2 : ¬ (k : Int) + 1 < (W.length : Nat) := by omega
          rw [if_neg q, if_neg (by simpa using q2)]
          exact mBin_v (mBin_v rfl rfl (fIx_list (k := 0) rfl (ge 0 (by omega)))) rfl rfl
      refine seq (mSet_v lat) ?_
      refine (mIfS_b (p := decide ((F.d : Int) < laterAt W F.t k - a)) (mTst_b (mBin_v rfl rfl rfl))).trans ?_
      by_cases q : (F.d : Int) < laterAt W F.t k - a
      · rw [if_pos (decide_eq_true q)]
        refine mDrop_v (w := .d .none) ((mAppend_v rfl rfl get_last (by unfold iw; simp; omega)).trans ?_)
        rw [set_last]
        show some (Wv.d .none, S ++ [iw A ++ [.d (.int a)]]) = _
        rw [iw_snoc]
        simp only [List.filterMap_cons, List.filterMap_nil, q, if_true]
      · rw [if_neg (by simpa using q)]
        simp only [List.filterMap_cons, List.filterMap_nil, q, if_false, List.append_nil]
        rfl) ⟨none, none, none, rfl, rfl⟩
  rw [← farN_idx]at *
  refine seq e2 (mRet_w ?_)
  generalize farN F.d F.t W = V
  refine (mIf_b (mTst_b (p := decide (((iw V).length : Int) = 1)) (mBin_v (cl rfl (cLen_ref get_last)) rfl (fEq_int _ 1)))).trans ?_
  match V with
  | [] => rfl
  | [x] => exact (if_pos rfl).trans (mBin_v rfl rfl (fIx_ref get_last (k := 0) rfl rfl))
  | x :: y :: l =>
    have e : ¬ (((iw (x :: y :: l)).length : Nat) : Int) = 1 := by
      unfold iw
      simp
      omega
    rw [if_neg (by simpa using e)]
    rfl
end
end K15
set_option Elab.async false
set_option linter.all false
set_option maxRecDepth 100000
set_option maxHeartbeats 4000000
set_option autoImplicit false
namespace K15
open PySem PySem.Spec PyProof.Rows L2
structure Gr where
  P : Pic
  ws : List (Int × CellC)
  p : Int
  aw : Bool
  k : Nat
def ww (ws : List (Int × CellC)) : List Wv := ws.map fun w => .d (eW w)
theorem ww_eq (ws : List (Int × CellC)) : ww ws = (ws.map eW).map .d := by unfold ww; rw [List.map_map]; rfl
def gearL (F : Fm) (i1 i2 : Nat) (p : Int) (nt : List PyData) (b : Int) (aw : Bool) : List Wv := [.d (eF F), .ref i1, .ref i2, .d (.int p), .d (.list nt), .d (.int b), .d (.list []), .d (.bool aw)]
structure GAt (F : Fm) (m : Nat → Prop) (S : Sto) (n : Nat) (g : Gr) (i1 i2 : Nat) (nt : List PyData) (b : Int) : Prop where
  mn : ¬ m n
  m1 : ¬ m i1
  m2 : ¬ m i2
  n1 : n ≠ i1
  n2 : n ≠ i2
  n12 : i1 ≠ i2
  gn : S[n]? = some (gearL F i1 i2 g.p nt b g.aw)
  g1 : S[i1]? = some (cw g.P)
  g2 : S[i2]? = some (ww g.ws)
  nk : nt.length ≤ g.k
  hq : ∀ i, m i → i < S.length
def GearAt (F : Fm) (m : Nat → Prop) (S : Sto) (n : Nat) (g : Gr) : Prop := OkS S ∧ ∃ i1 i2 nt b, GAt F m S n g i1 i2 nt b
/-- the first m lists stay, none goes -/
def Pre (m : Nat → Prop) (S S' : Sto) : Prop := S.length ≤ S'.length ∧ ∀ i, m i → S'[i]? = S[i]?
theorem Pre.refl {m : Nat → Prop} {S : Sto} : Pre m S S := ⟨Nat.le_refl _, fun _ _ => rfl⟩
theorem Pre.trans {m : Nat → Prop} {S S' S'' : Sto} (a : Pre m S S') (b : Pre m S' S'') : Pre m S S'' := ⟨Nat.le_trans a.1 b.1, fun i hi => (b.2 i hi).trans (a.2 i hi)⟩
theorem pre_app {m : Nat → Prop} {S T : Sto} (h : ∀ i, m i → i < S.length) : Pre m S (S ++ T) := ⟨by simp, fun i hi => List.getElem?_append_left (h i hi)⟩
theorem pre_set {m : Nat → Prop} {n : Nat} {S : Sto} {us : List Wv} (h : ¬ m n) : Pre m S (S.set n us) := ⟨by simp, fun i hi => List.getElem?_set_ne (fun e => h (by rw [e]; exact hi))⟩
theorem okR_mono {n m : Nat} (h : n ≤ m) {w : Wv} (hw : okR n w = true) : okR m w = true := by
  cases w with
  | ref k => exact decide_eq_true (by have := of_decide_eq_true (show decide (k < n) = true from hw); omega)
  | _ => rfl
theorem all_mono {n m : Nat} (h : n ≤ m) {us : List Wv} (hu : us.all (okR n) = true) : us.all (okR m) = true := by
  rw [List.all_eq_true] at hu ⊢
  exact fun w hw => okR_mono h (hu w hw)
theorem OkS.app {S : Sto} {us : List Wv} (h : OkS S) (hu : us.all (okR (S.length + 1)) = true) : OkS (S ++ [us]) := by
  unfold OkS at h ⊢
  rw [List.all_append, List.length_append, List.length_singleton, Bool.and_eq_true]
  refine ⟨?_, by simpa using hu⟩
  rw [List.all_eq_true] at h ⊢
  exact fun vs hv => all_mono (Nat.le_succ _) (h vs hv)
theorem OkS.set {S : Sto} {us : List Wv} {i : Nat} (h : OkS S) (hu : us.all (okR S.length) = true) : OkS (S.set i us) := by
  unfold OkS at h ⊢
  rw [List.length_set, List.all_eq_true]
  rw [List.all_eq_true] at h
  intro vs hv
  rcases List.mem_or_eq_of_mem_set hv with hv | rfl
  · exact h vs hv
  · exact hu
theorem ok_data {α : Type} (n : Nat) (f : α → PyData) (l : List α) : (l.map fun a => Wv.d (f a)).all (okR n) = true := by
  rw [List.all_eq_true]
  intro w hw
  obtain ⟨a, _, rfl⟩ := List.mem_map.mp hw
  rfl
theorem ok_cw (n : Nat) (P : Pic) : (cw P).all (okR n) = true := ok_data n eC P
theorem ok_ww (n : Nat) (ws : List (Int × CellC)) : (ww ws).all (okR n) = true := ok_data n eW ws
theorem ok_gear {F : Fm} {m i1 i2 : Nat} {p : Int} {nt : List PyData} {b : Int} {aw : Bool} (h1 : i1 < m) (h2 : i2 < m) : (gearL F i1 i2 p nt b aw).all (okR m) = true := by
  unfold gearL
  simp [okR, h1, h2]
theorem get_lt {S : Sto} {i : Nat} {x : List Wv} (h : S[i]? = some x) : i < S.length := (List.getElem?_eq_some_iff.mp h).1
theorem set_self {S : Sto} {i : Nat} {x : List Wv} (h : S[i]? = some x) : S.set i x = S := by
  obtain ⟨hl, e⟩ := List.getElem?_eq_some_iff.mp h
  subst e
  simp
theorem sem_nx {n : Nat} {m : MS} {ws : List Wv} {S S' : Sto} {δ' : DEnv} (h : m (startD n ws) S = some (.nx δ', S')) : sem n m ws S = some (.d .none, S') := by unfold sem; rw [h]; rfl
theorem land_snoc (P : Pic) (p : List (Int × CellC)) (w : Int × CellC) : land P (p ++ [w]) = put (land P p) w.1 (some w.2) := by
  unfold land fall
  rw [List.length_append, List.length_singleton, List.replicate_succ', List.zip_append (by simp)]
  show fallN P (p.zip (List.replicate p.length Fate.new) ++ [(w, Fate.new)]) = _
  rw [fallN_snoc]
  rfl
section
variable {S S1 : Sto} {δ δ' : DEnv} {F : Fm} {P : Pic} {w : Wv}
theorem v_blank : g__law_blank [] S = some (.d (eN .n0), S) := rfl
theorem v_face (h : F.Ok) : g__law_face [.d (eF F)] S = some (.d (eP (begunP F)), S) := by
  have h6 := h.c6
  refine sem_rt (mRet_w (mBin_v (w1 := .d (.tuple [eCC ((F.m : Int) - 1, .n0)])) (w2 := .d (.int F.c)) rfl rfl ?_))
  unfold fMulA
  dsimp only
  rw [if_pos]
  · rw [Int.toNat_natCast]
    have : (List.replicate F.c [eCC ((F.m : Int) - 1, .n0)]).flatten = (begunP F).map eC := by
      unfold begunP
      rw [List.map_replicate]
      generalize F.c = k
      induction k with
      | zero => rfl
      | succ k ih =>
        rw [List.replicate_succ, List.flatten_cons, ih, List.replicate_succ]
        rfl
    rw [this]
    rfl
  · exact ⟨by simp, by omega, by omega, by simp⟩
theorem cList_tup (P : Pic) : cList [.d (eP P)] S = some (cw P, S) := by
  rw [cw_eq]
  rfl
theorem v_gear (ok : OkS S) (h : F.Ok) : ∃ S', g__law_gear [.d (eF F)] S = some (.ref (S.length + 2), S') ∧ GearAt F (fun i => i < S.length) S' (S.length + 2) ⟨begunP F, [], 0, true, 0⟩ ∧ Pre (fun i => i < S.length) S S' := by
  refine ⟨((S ++ [cw (begunP F)]) ++ [[]]) ++ [gearL F S.length (S.length + 1) 0 [] 0 true], ?_, ⟨?_, S.length, S.length + 1, [], 0, ?_⟩, ?_⟩
  · have key : mLst (mCons (mVar 0) (mCons (mMut (mCallF cList (mCons (mCall g__law_face (mCons (mVar 0) mNil)) mNil))) (mCons (mMut (mLst mNil)) (mCons (mC (.int 0)) (mCons (mImm (mLst mNil)) (mCons (mC (.int 0)) (mCons (mImm (mLst mNil)) (mCons (mC (.bool true)) mNil)))))))) [some (.d (eF F))] S = some (gearL F S.length (S.length + 1) 0 [] 0 true, (S ++ [cw (begunP F)]) ++ [[]]) := by
      have e1 : mMut (mCallF cList (mCons (mCall g__law_face (mCons (mVar 0) mNil)) mNil)) [some (.d (eF F))] S = some (.ref S.length, S ++ [cw (begunP F)]) := mMut_v ((mCallF_v (mCons_v (cl rfl (v_face h)) rfl)).trans (cList_tup _))
      unfold mLst
      rw [mCons_v (show mVar 0 [some (.d (eF F))] S = some (.d (eF F), S) from rfl) (mCons_v e1 (mCons_v (mMut_v (ws := []) rfl) (mCons_v rfl (mCons_v rfl (mCons_v rfl (mCons_v rfl (mCons_v rfl rfl))))))), Option.bind_some]
      have e2 : (S ++ [cw (begunP F)]).length = S.length + 1 := by simp
      rw [e2]
      rfl
    refine sem_rt (mRet_w ((mMut_v key).trans ?_))
    simp
  · exact ((ok.app (ok_cw _ _)).app rfl).app (ok_gear (by first | (simp; done) | (simp; omega) | omega) (by first | (simp; done) | (simp; omega) | omega))
  · refine ⟨by show ¬ _ < _; omega, by show ¬ _ < _; omega, by show ¬ _ < _; omega, by omega, by omega, by omega, ?_, ?_, ?_, by simp, fun i hi => Nat.lt_of_lt_of_le hi (by first | (simp; done) | (simp; omega) | omega)⟩
    · have e : S.length + 2 = ((S ++ [cw (begunP F)]) ++ [[]]).length := by simp
      rw [e]
      exact get_last
    · rw [List.getElem?_append_left (by first | (simp; done) | (simp; omega) | omega), List.getElem?_append_left (by first | (simp; done) | (simp; omega) | omega)]
      exact get_last
    · rw [List.getElem?_append_left (by simp)]
      have e : S.length + 1 = (S ++ [cw (begunP F)]).length := by simp
      rw [e]
      exact get_last
  · exact ((pre_app fun i hi => hi).trans (pre_app fun i hi => Nat.lt_of_lt_of_le hi (by first | (simp; done) | (simp; omega) | omega))).trans (pre_app fun i hi => Nat.lt_of_lt_of_le hi (by first | (simp; done) | (simp; omega) | omega))
theorem v_lfallen {fw : Wv} {ws : List (Int × CellC)} {fs : List Fate} (hf : Face w P S) (hp : P.length = F.c) (hw : WOk F ws) (hl : fs.length = ws.length) (hsq : ∀ x, SeqOf fw (ws.map eW) (S ++ [x])) :
    g__law_fallen [w, fw, .d (eTs fs)] S = some (.ref S.length, S ++ [cw (fall P ws fs)]) := by
  have e0 : cList [w] S = some (cw P, S) := by
    rcases hf with rfl | ⟨n, rfl, e⟩
    · exact cList_tup P
    · show (S[n]?).map (fun ws => (ws, S)) = _
      rw [e]
      rfl
  refine sem_rt (seq (mSet_v (mMut_v ((mCallF_v rfl).trans e0))) ?_)
  obtain ⟨δ2, S2, e2, x, y, rfl, rfl⟩ := for_inv (n := nTup (nCons (nName 4) (nCons (nName 5) nNil)))
    (b := mIfS (mTst (mBin fNe (mVar 5) (mC (.str "old")))) (mAsgG (gSubD (mVar 3) (mBin fIx (mVar 4) (mC (.int 0)))) (mIf (mTst (mBin fEq (mVar 5) (mC (.str "new")))) (mBin fIx (mVar 4) (mC (.int 1))) (mTup (mCons (mC (.str "torn")) mNil)))) mNext)
    (mi := mZip (mVar 1) (mVar 2)) (δ := [some w, some fw, some (.d (eTs fs)), some (.ref S.length), none, none]) (S := S ++ [cw P])
    (ws.zip fs) (fun p => .d (.tuple [eW p.1, eT p.2])) (fun p δ' S' => ∃ x y, δ' = [some w, some fw, some (.d (eTs fs)), some (.ref S.length), x, y] ∧ S' = S ++ [cw (fallN P p)]) (J := fun S' => ∃ x, S' = S ++ [x]) (by
      have := src_zip (a := mVar 1) (b := mVar 2) (δ := [some w, some fw, some (.d (eTs fs)), some (.ref S.length), none, none]) (S := S ++ [cw P]) (ds := ws.map eW) (es := fs.map eT) (w1 := fw) (w2 := .d (.tuple (fs.map eT))) (J := fun S' => ∃ x, S' = S ++ [x]) rfl rfl ⟨hsq _, seqOf_tup⟩ (fun S' ⟨x, e⟩ => by rw [e]; exact ⟨hsq _, seqOf_tup⟩) (by simp [hl])
      rw [prs_map, List.map_map] at this
      exact this) (fun _ _ _ ⟨_, _, _, e⟩ => ⟨_, e⟩) (by
      rintro p ⟨⟨k, cc⟩, f⟩ r δ1 S1 hx ⟨x, y, rfl, rfl⟩
      have hk : 0 ≤ k ∧ k < F.c := hw (k, cc) (by
        have : ((k, cc), f) ∈ ws.zip fs := by rw [hx]; simp
        exact (List.of_mem_zip this).1)
      have hlen : (fallN P p).length = F.c := by rw [fallN_length, hp]
      refine ⟨_, _, _, rfl, ?_, some (.d (eW (k, cc))), some (.d (eT f)), rfl, rfl⟩
      rw [fallN_snoc]
      have sub : ∀ x : Cell, gSubD (mVar 3) (mBin fIx (mVar 4) (mC (.int 0))) (.d (eC x)) [some w, some fw, some (.d (eTs fs)), some (.ref S.length), some (.d (eW (k, cc))), some (.d (eT f))] (S ++ [cw (fallN P p)]) =
          some ([some w, some fw, some (.d (eTs fs)), some (.ref S.length), some (.d (eW (k, cc))), some (.d (eT f))], S ++ [cw (put (fallN P p) k x)]) := fun x => by
        refine (gSub_v rfl rfl get_last hk.1 (by rw [cw_length, hlen]; exact hk.2)).trans ?_
        rw [set_last, cw_set]
        rfl
      cases f with
      | old => exact (mIfS_f (mTst_b (p := false) (mBin_v rfl rfl (fNe_old .old)))).trans rfl
      | new => exact (mIfS_t (mTst_b (p := true) (mBin_v rfl rfl (fNe_old .new)))).trans (asgG_v ((mIf_t (mTst_b (p := true) (mBin_v rfl rfl (fEq_new .new)))).trans rfl) (sub (some cc)))
      | torn => exact (mIfS_t (mTst_b (p := true) (mBin_v rfl rfl (fNe_old .torn)))).trans (asgG_v ((mIf_f (mTst_b (p := false) (mBin_v rfl rfl (fEq_new .torn)))).trans rfl) (sub none))) ⟨none, none, rfl, rfl⟩
  exact seq e2 (mRet_w rfl)
/-! the gear's moves -/
theorem asgT_v {gs : MGs} {a : MA} {ws : List Wv} {S' S'' : Sto} (h : a δ S = some (ws, S')) (hl : ws.length ≤ 1000) (hg : gs ws δ S' = some (δ', S'')) : mAsgT gs a δ S = some (.nx δ', S'') := by
  unfold mAsgT
  rw [h, Option.bind_some, if_pos hl, hg]
  rfl
theorem gsCons_v {a : MG} {r : MGs} {u : Wv} {us : List Wv} {δ1 : DEnv} {S1 : Sto} {x : Option (DEnv × Sto)} (h : a u δ S = some (δ1, S1)) (h2 : r us δ1 S1 = x) : gsCons a r (u :: us) δ S = x := by
  show (a u δ S).bind _ = _
  rw [h]
  exact h2
theorem v_stand {m : Nat → Prop} {n : Nat} {g : Gr} (h : F.Ok) (hp : g.P.length = F.c) (hw : WOk F g.ws) (hg : GearAt F m S n g) :
    ∃ S', g__law_stand [.ref n] S = some (.d .none, S') ∧ GearAt F m S' n ⟨land g.P g.ws, [], g.p, g.aw, g.k⟩ ∧ Pre m S S' := by
  obtain ⟨ok, i1, i2, nt, b, hA⟩ := hg
  obtain ⟨mn, m1, m2, n1, n2, n12, gn, g1, g2, nk, hq⟩ := hA
  have ln := get_lt gn
  have l1 := get_lt g1
  have l2 := get_lt g2
  obtain ⟨δ2, S2, e2, x, y, rfl, rfl⟩ := for_inv (n := nTup (nCons (nName 1) (nCons (nName 2) nNil)))
    (b := mAsgG (gSubD (mBin fIx (mVar 0) (mC (.int 1))) (mVar 1)) (mVar 2))
    (mi := mIter (mBin fIx (mVar 0) (mC (.int 2)))) (δ := [some (.ref n), none, none]) (S := S)
    g.ws (fun p => .d (eW p)) (fun p δ' S' => ∃ x y, δ' = [some (.ref n), x, y] ∧ S' = S.set i1 (cw (land g.P p))) (J := fun S' => S'[i2]? = some (ww g.ws)) (by
      exact src_ref (n := i2) (mBin_v rfl rfl (fIx_ref gn (k := 2) rfl rfl)) g2 fun S' hS => hS) (by
      rintro p δ' S' ⟨x, y, _, rfl⟩
      rw [List.getElem?_set_ne n12]
      exact g2) (by
      rintro p ⟨k, cc⟩ r δ1 S1 hx ⟨x, y, rfl, rfl⟩
      have hk : 0 ≤ k ∧ k < F.c := hw (k, cc) (by rw [hx]; simp)
      have hlen : (land g.P p).length = F.c := by rw [land_length, hp]
      refine ⟨[(1, .d (.int k)), (2, .d (eCC cc))], _, _, rfl, ?_, some (.d (.int k)), some (.d (eCC cc)), rfl, rfl⟩
      have gn' : (S.set i1 (cw (land g.P p)))[n]? = some (gearL F i1 i2 g.p nt b g.aw) := by rw [List.getElem?_set_ne n1.symm]; exact gn
      refine asgG_v rfl ((gSub_v (mBin_v rfl rfl (fIx_ref gn' (k := 1) rfl rfl)) rfl (List.getElem?_set_self l1) hk.1 (by rw [cw_length, hlen]; exact hk.2)).trans ?_)
      rw [List.set_set, show (Wv.d (eCC cc)) = Wv.d (eC (some cc)) from rfl, cw_set, land_snoc]
      rfl) ⟨none, none, rfl, by
        have e0 : land g.P [] = g.P := rfl
        rw [e0]
        exact (set_self g1).symm⟩
  have gn2 : (S.set i1 (cw (land g.P g.ws)))[n]? = some (gearL F i1 i2 g.p nt b g.aw) := by rw [List.getElem?_set_ne n1.symm]; exact gn
  have gn3 : ((S.set i1 (cw (land g.P g.ws))) ++ [[]])[n]? = some (gearL F i1 i2 g.p nt b g.aw) := by rw [List.getElem?_append_left (by simp; exact ln)]; exact gn2
  have fin : mAsgT (gsCons (gSubD (mVar 0) (mC (.int 2))) (gsCons (gSubD (mVar 0) (mC (.int 5))) gsNil)) (mCons (mMut (mLst mNil)) (mCons (mBin fIx (mVar 0) (mC (.int 3))) mNil)) [some (.ref n), x, y] (S.set i1 (cw (land g.P g.ws))) =
      some (Fl.nx [some (.ref n), x, y], ((S.set i1 (cw (land g.P g.ws))) ++ [[]]).set n (gearL F i1 S.length g.p nt g.p g.aw)) := by
    refine asgT_v (ws := [.ref S.length, .d (.int g.p)]) (S' := (S.set i1 (cw (land g.P g.ws))) ++ [[]]) (mCons_v ((mMut_v (ws := []) rfl).trans (by rw [List.length_set])) (mCons_v (mBin_v rfl rfl (fIx_ref gn3 (k := 3) rfl rfl)) rfl)) (by simp) ?_
    refine gsCons_v (gSub_v rfl rfl gn3 (by omega) (by unfold gearL; simp)) (gsCons_v (gSub_v rfl rfl (List.getElem?_set_self (by simp; omega)) (by omega) (by unfold gearL; simp)) ?_)
    rw [List.set_set]
    rfl
  refine ⟨((S.set i1 (cw (land g.P g.ws))) ++ [[]]).set n (gearL F i1 S.length g.p nt g.p g.aw), ?_, ⟨?_, i1, S.length, nt, g.p, ?_⟩, ?_⟩
  · exact sem_nx (seq e2 fin)
  · refine ((ok.set (ok_cw _ _)).app rfl).set (ok_gear ?_ ?_) <;> simp <;> omega
  · refine ⟨mn, m1, fun z => Nat.lt_irrefl _ (hq _ z), n1, by omega, by omega, List.getElem?_set_self (by simp; omega), ?_, ?_, nk, fun i hi => Nat.lt_of_lt_of_le (hq i hi) (by first | (simp; done) | (simp; omega) | omega)⟩
    · rw [List.getElem?_set_ne n1, List.getElem?_append_left (by simp; exact l1), List.getElem?_set_self l1]
    · rw [List.getElem?_set_ne (by omega)]
      have e : S.length = (S.set i1 (cw (land g.P g.ws))).length := by simp
      rw [e]
      exact get_last
  · exact (pre_set m1).trans ((pre_app fun i hi => Nat.lt_of_lt_of_le (hq i hi) (by first | (simp; done) | (simp; omega) | omega)).trans (pre_set mn))
end
end K15
set_option Elab.async false
set_option linter.all false
set_option maxRecDepth 100000
set_option maxHeartbeats 4000000
set_option autoImplicit false
namespace K15
open PySem PySem.Spec PyProof.Rows L2
def writeG (F : Fm) (g : Gr) (n : Note) : Gr :=
  let g' : Gr := if g.ws.length = F.d then ⟨land g.P g.ws, [], g.p, g.aw, g.k⟩ else g
  ⟨g'.P, g'.ws ++ [(g.p % F.c, (mark F g.p, n))], g.p + 1, g.aw, g.k + 1⟩
theorem rng_shift (a : Int) (d : Nat) : rng a (a + d) = (rng 0 d).map (a + ·) := by
  unfold rng
  rw [List.map_map]
  have e : (a + (d : Int) - a).toNat = ((d : Int) - 0).toNat := by omega
  rw [e]
  apply List.map_congr_left
  intro i _
  simp
section
variable {S S1 : Sto} {δ δ' : DEnv} {F : Fm} {P : Pic} {w : Wv}
theorem GAt.face {m : Nat → Prop} {n : Nat} {g : Gr} {i1 i2 : Nat} {nt : List PyData} {b : Int} (h : GAt F m S n g i1 i2 nt b) : Face (.ref i1) g.P S := .inr ⟨i1, rfl, h.g1⟩
theorem v_write {m : Nat → Prop} {n : Nat} {g : Gr} (h : F.Ok) (hp : g.P.length = F.c) (hw : WOk F g.ws) (hl : g.ws.length ≤ F.d) (hk : g.k < 900000) (hg : GearAt F m S n g) (nn : Note) :
    ∃ S', g__law_write [.ref n, .d (eN nn)] S = some (.d .none, S') ∧ GearAt F m S' n (writeG F g nn) ∧ Pre m S S' := by
  have h6 := h.c6
  have hdc := h.dc
  -- the second half
  have tail : ∀ (g' : Gr) (S1 : Sto), g'.p = g.p → g'.aw = g.aw → g'.k = g.k → g'.ws.length ≤ 6 → GearAt F m S1 n g' → ∃ S', mSeq (mDrop (mAppend (mBin fIx (mVar 0) (mC (.int 2))) (mTup (mCons (mBin fMod (mCall cInt (mCons (mBin fIx (mVar 0) (mC (.int 3))) mNil)) (mBin fIx (mVar 2) (mC (.int 0)))) (mCons (mTup (mCons (mCall g__law_lap (mCons (mVar 2) (mCons (mBin fIx (mVar 0) (mC (.int 3))) mNil))) (mCons (mVar 1) mNil))) mNil))))) (mAsgT (gsCons (gSubD (mVar 0) (mC (.int 3))) (gsCons (gSubD (mVar 0) (mC (.int 4))) gsNil)) (mCons (mBin fAdd (mBin fIx (mVar 0) (mC (.int 3))) (mC (.int 1))) (mCons (mImm (mBinF fCat (mBin fIx (mVar 0) (mC (.int 4))) (mImm (mLst (mCons (mVar 1) mNil))))) mNil)))
        [some (.ref n), some (.d (eN nn)), some (.d (eF F))] S1 = some (Fl.nx [some (.ref n), some (.d (eN nn)), some (.d (eF F))], S') ∧ GearAt F m S' n ⟨g'.P, g'.ws ++ [(g.p % F.c, (mark F g.p, nn))], g.p + 1, g.aw, g.k + 1⟩ ∧ Pre m S1 S' := by
    rintro ⟨P', ws', p', aw', k'⟩ S1 rfl rfl rfl hl' ⟨ok, i1, i2, nt, b, mn, m1, m2, n1, n2, n12, gn, g1, g2, nk, hq⟩
    dsimp only at hl' gn g1 g2 nk ⊢
    have ln := get_lt gn
    have l1 := get_lt g1
    have l2 := get_lt g2
    have gn' : (S1.set i2 (ww ws' ++ [.d (eW (g.p % F.c, (mark F g.p, nn)))]))[n]? = some (gearL F i1 i2 g.p nt b g.aw) := by rw [List.getElem?_set_ne n2.symm]; exact gn
    refine ⟨(S1.set i2 (ww (ws' ++ [(g.p % F.c, (mark F g.p, nn))]))).set n (gearL F i1 i2 (g.p + 1) (nt ++ [eN nn]) b g.aw), ?_, ⟨?_, i1, i2, nt ++ [eN nn], b, ?_⟩, ?_⟩
    · refine seq (mDrop_v ((mAppend_v (w := .d (eW (g.p % F.c, (mark F g.p, nn)))) (mBin_v rfl rfl (fIx_ref gn (k := 2) rfl rfl)) (mTup_2 (mBin_v (cl (mCons_v (mBin_v rfl rfl (fIx_ref gn (k := 3) rfl rfl)) rfl) rfl) rfl (fMod_v g.p (c := F.c) (by omega))) (mTup_2 (cl (mCons_v rfl (mCons_v (mBin_v rfl rfl (fIx_ref gn (k := 3) rfl rfl)) rfl)) (v_lap h g.p)) rfl)) g2 (by unfold ww; simp; omega)))) ?_
      have eww : ww ws' ++ [.d (eW (g.p % F.c, (mark F g.p, nn)))] = ww (ws' ++ [(g.p % F.c, (mark F g.p, nn))]) := by unfold ww; simp
      have cat : mImm (mBinF fCat (mBin fIx (mVar 0) (mC (.int 4))) (mImm (mLst (mCons (mVar 1) mNil)))) [some (.ref n), some (.d (eN nn)), some (.d (eF F))] (S1.set i2 (ww ws' ++ [.d (eW (g.p % F.c, (mark F g.p, nn)))])) = some (.d (.list (nt ++ [eN nn])), S1.set i2 (ww ws' ++ [.d (eW (g.p % F.c, (mark F g.p, nn)))])) :=
        cat_v (mBin_v rfl rfl (fIx_ref gn' (k := 4) rfl rfl)) (mImm_v (ds := [eN nn]) (mLst_1 rfl)) (by simp; omega)
      refine asgT_v (ws := [.d (.int (g.p + 1)), .d (.list (nt ++ [eN nn]))]) (mCons_v (mBin_v (mBin_v rfl rfl (fIx_ref gn' (k := 3) rfl rfl)) rfl rfl) (mCons_v cat rfl)) (by simp) ?_
      refine gsCons_v (gSub_v rfl rfl gn' (by omega) (by unfold gearL; simp)) (gsCons_v (gSub_v rfl rfl (List.getElem?_set_self (by simp; omega)) (by omega) (by unfold gearL; simp)) ?_)
      rw [List.set_set, eww]
      rfl
    · refine (ok.set (ok_ww _ _)).set (ok_gear ?_ ?_) <;> simp <;> omega
    · refine ⟨mn, m1, m2, n1, n2, n12, List.getElem?_set_self (by simp; omega), ?_, ?_, by simp; omega, fun i hi => Nat.lt_of_lt_of_le (hq i hi) (by first | (simp; done) | (simp; omega) | omega)⟩
      · rw [List.getElem?_set_ne n1, List.getElem?_set_ne n12.symm]; exact g1
      · rw [List.getElem?_set_ne n2, List.getElem?_set_self l2]
    · exact (pre_set m2).trans (pre_set mn)
  have hg0 := hg
  obtain ⟨ok, i1, i2, nt, b, mn, m1, m2, n1, n2, n12, gn, g1, g2, nk, hq⟩ := hg
  have first : mSet 2 (mBin fIx (mVar 0) (mC (.int 0))) [some (.ref n), some (.d (eN nn)), none] S = some (Fl.nx [some (.ref n), some (.d (eN nn)), some (.d (eF F))], S) := mSet_v (mBin_v rfl rfl (fIx_ref gn (k := 0) rfl rfl))
  have c : mTst (mBin fEq (mCall cLen (mCons (mBin fIx (mVar 0) (mC (.int 2))) mNil)) (mBin fIx (mVar 2) (mC (.int 1)))) [some (.ref n), some (.d (eN nn)), some (.d (eF F))] S = some (decide (((ww g.ws).length : Int) = F.d), S) :=
    mTst_b (mBin_v (cl (mCons_v (mBin_v rfl rfl (fIx_ref gn (k := 2) rfl rfl)) rfl) (cLen_ref g2)) rfl (fEq_int _ _))
  have lw : (ww g.ws).length = g.ws.length := by unfold ww; simp
  rw [lw] at c
  unfold writeG
  by_cases q : g.ws.length = F.d
  · rw [if_pos q]
    obtain ⟨S1, e1, hg1, p1⟩ := v_stand h hp hw hg0
    obtain ⟨S2, e2, hg2, p2⟩ := tail ⟨land g.P g.ws, [], g.p, g.aw, g.k⟩ S1 rfl rfl rfl (by simp) hg1
    refine ⟨S2, sem_nx (seq first (seq ((mIfS_t (c.trans (by simp [q]))).trans (mDrop_v (cl rfl e1))) e2)), hg2, p1.trans p2⟩
  · rw [if_neg q]
    obtain ⟨S2, e2, hg2, p2⟩ := tail g S rfl rfl rfl (by omega) hg0
    refine ⟨S2, sem_nx (seq first (seq ((mIfS_f (c.trans (by simp; omega))).trans rfl) e2)), hg2, p2⟩
theorem v_is_note (n : Note) : g__law_is_note [.d (eN n)] S = some (.d (.bool true), S) := by cases n <;> kernel_rfl
theorem v_lare_fates (fs : List Fate) (n : Int) (hf : fs.length < 1000) : g__law_are_fates [.d (eTs fs), .d (.int n)] S = some (.d (.bool (decide ((fs.length : Int) = n))), S) := by
  have le : ((fs.map eT).length : Int) = fs.length := by simp
  have c : mtOr (mtNot (mTst (mCall cIsi (mCons (mVar 0) (mCons (mTy .tuple) mNil))))) (mTst (mBin fNe (mCall cLen (mCons (mVar 0) mNil)) (mVar 1))) [some (.d (eTs fs)), some (.d (.int n)), none] S = some (!decide (((fs.map eT).length : Int) = n), S) :=
    (mtOr_b (p := false) (mtNot_b (p := true) (mTst_b rfl)) fun _ => mTst_b (mBin_v rfl rfl (fNe_int _ _))).trans rfl
  rw [le] at c
  by_cases e : (fs.length : Int) = n
  · refine sem_rt ((guard_f c (by simp [e])).trans (mRet_w ?_))
    refine (eq_nil_v (ds := []) (k := 0) (mImm_v ((comp_src (β := Fate) fs (fun x => .d (eT x)) (fun _ => none) (fun x => .d (eT x)) ?_ (by omega) fun x hx => ⟨_, rfl, .inl ⟨rfl, ?_⟩⟩).trans ?_)) (fun x hx => by simp at hx) (by omega)).trans ?_
    · have := src_tup (a := mVar 0) (δ := [some (.d (eTs fs)), some (.d (.int n)), none]) (S := S) (ds := fs.map eT) (J := fun S' => S' = S) rfl
      rw [List.map_map] at this
      exact this
    · cases x <;> kernel_rfl
    · simp
    · simp [e]
  · refine (sem_rt (guard_t c (by simp [e]) (mRet_w rfl))).trans ?_
    simp [e]
theorem v_mending (ok : OkS S) (h : F.Ok) (hp : P.length = F.c) (hw : Face w P S) {a : Int} (ha : answerG F P = some a) : g__law_mending [.d (eF F), w] S = some (.d (.list ((mendN F P a).map eW)), S) := by
  have h6 := h.c6
  have hdc := h.dc
  refine trim_l (T := [((mendN F P a).map eW).map .d]) (l := S.length) ?_ rfl ok (Nat.le_refl _) get_last
  refine sem_rt (seq (mPar_v (mCons_v (cl rfl ((v_answer ok h hp hw).trans (by rw [ha]))) (mCons_v (mMut_v (ws := []) rfl) rfl))) ?_)
  obtain ⟨δ2, S2, e2, x, y, z, rfl, rfl⟩ := for_inv (n := nName 4)
    (b := mSeq (mPar 5 6 (mCons (mBin fMod (mCall cInt (mCons (mBin fAdd (mVar 2) (mVar 4)) mNil)) (mBin fIx (mVar 0) (mC (.int 0)))) (mCons (mBin fSub (mBin fAdd (mVar 2) (mVar 4)) (mBin fIx (mVar 0) (mC (.int 0)))) mNil))) (mIfS (mtAnd (mTst (mBin fNe (mBin fIx (mVar 1) (mVar 5)) (mTup (mCons (mC (.str "torn")) mNil)))) (mtNot (mTst (mCall g__law_shows (mCons (mVar 0) (mCons (mVar 1) (mCons (mVar 6) mNil))))))) (mDrop (mAppend (mVar 3) (mTup (mCons (mVar 5) (mCons (mTup (mCons (mCall g__law_lap (mCons (mVar 0) (mCons (mVar 6) mNil))) (mCons (mCall g__law_blank mNil) mNil))) mNil))))) mNext))
    (mi := mRange1 (mBin fIx (mVar 0) (mC (.int 1)))) (δ := [some (.d (eF F)), some w, some (.d (.int a)), some (.ref S.length), none, none, none]) (S := S ++ [[]])
    (rng 0 F.d) (fun i => .d (.int i)) (fun p δ' S' => ∃ x y z, δ' = [some (.d (eF F)), some w, some (.d (.int a)), some (.ref S.length), x, y, z] ∧ S' = S ++ [(((p.map (a + ·)).filterMap fun n => if (!decide (cellAt F P n = none) && !shows F P (n - F.c)) = true then some (n % F.c, ((mark F (n - F.c), .n0) : CellC)) else none).map eW).map .d]) (J := fun _ => True)
    (src_range1 rfl ⟨by omega, by omega⟩) (fun _ _ _ _ => trivial) (by
      rintro p j r δ1 S1 hx ⟨x, y, z, rfl, rfl⟩
      have hpl : p.length ≤ (rng 0 F.d).length := by rw [hx]; simp
      rw [rng_length] at hpl
      generalize hA : ((p.map (a + ·)).filterMap fun n => if (!decide (cellAt F P n = none) && !shows F P (n - F.c)) = true then some (n % F.c, ((mark F (n - F.c), .n0) : CellC)) else none) = A
      have hAl : A.length ≤ p.length := by rw [← hA]; exact Nat.le_trans (List.length_filterMap_le _ _) (by simp)
      have hw2 : Face w P (S ++ [(A.map eW).map .d]) := hw.app _
      refine ⟨_, _, _, rfl, ?_, some (.d (.int j)), some (.d (.int ((a + j) % F.c))), some (.d (.int (a + j - F.c))), rfl, rfl⟩
      rw [List.map_append, List.filterMap_append, hA]
      have c : mtAnd (mTst (mBin fNe (mBin fIx (mVar 1) (mVar 5)) (mTup (mCons (mC (.str "torn")) mNil)))) (mtNot (mTst (mCall g__law_shows (mCons (mVar 0) (mCons (mVar 1) (mCons (mVar 6) mNil)))))) [some (.d (eF F)), some w, some (.d (.int a)), some (.ref S.length), some (.d (.int j)), some (.d (.int ((a + j) % F.c))), some (.d (.int (a + j - F.c)))] (S ++ [(A.map eW).map .d]) =
          some (!decide (cellAt F P (a + j) = none) && !shows F P (a + j - F.c), S ++ [(A.map eW).map .d]) :=
        mtAnd_b (mTst_b (mBin_v (mBin_v rfl rfl (face_at h hp hw2 (a + j))) rfl (fNe_torn _))) fun _ => mtNot_b (mTst_b (cl rfl (v_shows h hp hw2 _)))
      refine seq (mPar_v (mCons_v (mBin_v (cl rfl rfl) rfl (fMod_v (a + j) (c := F.c) (by omega))) (mCons_v rfl rfl))) ((mIfS_b c).trans ?_)
      by_cases q : (!decide (cellAt F P (a + j) = none) && !shows F P (a + j - F.c)) = true
      · rw [if_pos q]
        refine mDrop_v (w := .d .none) ((mAppend_v rfl (mTup_2 rfl (mTup_2 (cl rfl (v_lap h _)) rfl)) get_last (by simp; omega)).trans ?_)
        rw [set_last]
        simp only [List.map_cons, List.map_nil, List.filterMap_cons, List.filterMap_nil, q, if_true, List.map_append]
        rfl
      · rw [if_neg q]
        simp only [List.map_cons, List.map_nil, List.filterMap_cons, List.filterMap_nil, q, if_false, Bool.false_eq_true, List.append_nil]
        rfl) ⟨none, none, none, rfl, rfl⟩
  rw [← rng_shift] at e2
  exact seq e2 (mRet_w rfl)
theorem v_cut {m : Nat → Prop} {n : Nat} {g : Gr} (h : F.Ok) (hp : g.P.length = F.c) (hw : WOk F g.ws) (hg : GearAt F m S n g) (fs : List Fate) (hl : fs.length = g.ws.length) :
    ∃ S', g__law_cut [.ref n, .d (eTs fs)] S = some (.d .none, S') ∧ GearAt F m S' n ⟨fall g.P g.ws fs, [], g.p, false, g.k⟩ ∧ Pre m S S' := by
  obtain ⟨ok, i1, i2, nt, b, hA⟩ := hg
  have hface := hA.face
  obtain ⟨mn, m1, m2, n1, n2, n12, gn, g1, g2, nk, hq⟩ := hA
  have ln := get_lt gn
  have l1 := get_lt g1
  have l2 := get_lt g2
  have e0 : mCall g__law_fallen (mCons (mBin fIx (mVar 0) (mC (.int 1))) (mCons (mBin fIx (mVar 0) (mC (.int 2))) (mCons (mVar 1) mNil))) [some (.ref n), some (.d (eTs fs))] S = some (.ref S.length, S ++ [cw (fall g.P g.ws fs)]) :=
    cl (mCons_v (mBin_v rfl rfl (fIx_ref gn (k := 1) rfl rfl)) (mCons_v (mBin_v rfl rfl (fIx_ref gn (k := 2) rfl rfl)) (mCons_v rfl rfl))) (v_lfallen hface hp hw hl fun x => seqOf_ref (by rw [List.getElem?_append_left l2, g2, ww_eq]))
  have gn2 : ((S ++ [cw (fall g.P g.ws fs)]) ++ [[]])[n]? = some (gearL F i1 i2 g.p nt b g.aw) := by rw [List.getElem?_append_left (by simp; omega), List.getElem?_append_left ln]; exact gn
  refine ⟨((S ++ [cw (fall g.P g.ws fs)]) ++ [[]]).set n (gearL F S.length (S.length + 1) g.p nt b false), ?_, ⟨?_, S.length, S.length + 1, nt, b, ?_⟩, ?_⟩
  · refine sem_nx (δ' := [some (.ref n), some (.d (eTs fs))]) (asgT_v (ws := [.ref S.length, .ref (S.length + 1), .d (.bool false)]) (S' := (S ++ [cw (fall g.P g.ws fs)]) ++ [[]]) (mCons_v e0 (mCons_v ((mMut_v (ws := []) rfl).trans ?_) rfl)) (by simp) ?_)
    · have : (S ++ [cw (fall g.P g.ws fs)]).length = S.length + 1 := by simp
      rw [this]
    · refine gsCons_v (gSub_v rfl rfl gn2 (by omega) (by unfold gearL; simp)) (gsCons_v (gSub_v rfl rfl (List.getElem?_set_self (by simp; omega)) (by omega) (by unfold gearL; simp)) (gsCons_v (gSub_v rfl rfl (List.getElem?_set_self (by simp; omega)) (by omega) (by unfold gearL; simp)) ?_))
      rw [List.set_set, List.set_set]
      rfl
  · refine ((ok.app (ok_cw _ _)).app rfl).set (ok_gear ?_ ?_) <;> simp <;> omega
  · refine ⟨mn, fun z => absurd (hq _ z) (by omega), fun z => absurd (hq _ z) (by omega), by omega, by omega, by omega, List.getElem?_set_self (by simp; omega), ?_, ?_, nk, fun i hi => Nat.lt_of_lt_of_le (hq i hi) (by first | (simp; done) | (simp; omega) | omega)⟩
    · rw [List.getElem?_set_ne (by omega), List.getElem?_append_left (by simp)]
      exact get_last
    · rw [List.getElem?_set_ne (by omega)]
      have e : S.length + 1 = (S ++ [cw (fall g.P g.ws fs)]).length := by simp
      rw [e]
      exact get_last
  · exact (pre_app hq).trans ((pre_app fun i hi => Nat.lt_of_lt_of_le (hq i hi) (by first | (simp; done) | (simp; omega) | omega)).trans (pre_set mn))
theorem v_mend {m : Nat → Prop} {n : Nat} {g : Gr} (h : F.Ok) (hp : g.P.length = F.c) (hg : GearAt F m S n g) {a : Int} (ha : answerG F g.P = some a) (k : Nat) (fs : List Fate) (hk : k ≤ (mendN F g.P a).length) (hl : fs.length = k) :
    ∃ S', g__law_mend [.ref n, .d (.int k), .d (eTs fs)] S = some (.d .none, S') ∧ GearAt F m S' n ⟨fall g.P ((mendN F g.P a).take k) fs, g.ws, g.p, g.aw, g.k⟩ ∧ Pre m S S' := by
  obtain ⟨ok, i1, i2, nt, b, hA⟩ := hg
  have hface := hA.face
  obtain ⟨mn, m1, m2, n1, n2, n12, gn, g1, g2, nk, hq⟩ := hA
  have ln := get_lt gn
  have l1 := get_lt g1
  have l2 := get_lt g2
  have cut : mSl (mCall g__law_mending (mCons (mBin fIx (mVar 0) (mC (.int 0))) (mCons (mBin fIx (mVar 0) (mC (.int 1))) mNil))) mNo (mPart (mVar 1)) [some (.ref n), some (.d (.int k)), some (.d (eTs fs))] S = some (.d (.list (((mendN F g.P a).take k).map eW)), S) := by
    unfold mSl
    rw [cl (f := g__law_mending) (mCons_v (mBin_v rfl rfl (fIx_ref gn (k := 0) rfl rfl)) (mCons_v (mBin_v rfl rfl (fIx_ref gn (k := 1) rfl rfl)) rfl)) (v_mending ok h hp hface ha), Option.bind_some]
    show fSl (.d (.list ((mendN F g.P a).map eW))) none (some (k : Int)) S = _
    rw [fSl_list, cutG_take, List.map_take]
  have e0 : mCall g__law_fallen (mCons (mBin fIx (mVar 0) (mC (.int 1))) (mCons (mSl (mCall g__law_mending (mCons (mBin fIx (mVar 0) (mC (.int 0))) (mCons (mBin fIx (mVar 0) (mC (.int 1))) mNil))) mNo (mPart (mVar 1))) (mCons (mVar 2) mNil))) [some (.ref n), some (.d (.int k)), some (.d (eTs fs))] S = some (.ref S.length, S ++ [cw (fall g.P ((mendN F g.P a).take k) fs)]) :=
    cl (mCons_v (mBin_v rfl rfl (fIx_ref gn (k := 1) rfl rfl)) (mCons_v cut (mCons_v rfl rfl))) (v_lfallen hface hp ((mendN_ok h _ _).take _) (by simp; omega) fun x => seqOf_list)
  have gn2 : (S ++ [cw (fall g.P ((mendN F g.P a).take k) fs)])[n]? = some (gearL F i1 i2 g.p nt b g.aw) := by rw [List.getElem?_append_left ln]; exact gn
  refine ⟨(S ++ [cw (fall g.P ((mendN F g.P a).take k) fs)]).set n (gearL F S.length i2 g.p nt b g.aw), ?_, ⟨?_, S.length, i2, nt, b, ?_⟩, ?_⟩
  · exact sem_nx (δ' := [some (.ref n), some (.d (.int k)), some (.d (eTs fs))]) (asgG_v e0 ((gSub_v rfl rfl gn2 (by omega) (by unfold gearL; simp)).trans rfl))
  · refine (ok.app (ok_cw _ _)).set (ok_gear ?_ ?_) <;> simp <;> omega
  · refine ⟨mn, fun z => absurd (hq _ z) (by omega), m2, by omega, n2, by omega, List.getElem?_set_self (by simp; omega), ?_, ?_, nk, fun i hi => Nat.lt_of_lt_of_le (hq i hi) (by first | (simp; done) | (simp; omega) | omega)⟩
    · rw [List.getElem?_set_ne (by omega)]
      exact get_last
    · rw [List.getElem?_set_ne n2, List.getElem?_append_left l2]
      exact g2
  · exact (pre_app hq).trans (pre_set mn)
end
end K15
set_option Elab.async false
set_option linter.all false
set_option maxRecDepth 100000
set_option maxHeartbeats 4000000
set_option autoImplicit false
namespace K15
open PySem PySem.Spec PyProof.Rows L2
def wentN (F : Fm) (g : Gr) (e : Ev) : Option Gr :=
  if g.aw then (match e with
    | .write n => some (writeG F g n)
    | .sync => some ⟨land g.P g.ws, [], g.p, true, g.k⟩
    | .cut fs => if fs.length = g.ws.length then some ⟨fall g.P g.ws fs, [], g.p, false, g.k⟩ else none
    | _ => none)
  else match answerG F g.P with
    | none => none
    | some a => (match e with
      | .wake => some ⟨land g.P (mendN F g.P a), g.ws, a, true, g.k⟩
      | .mend k fs => if 0 ≤ k ∧ k ≤ ((mendN F g.P a).length : Nat) ∧ (fs.length : Int) = k then some ⟨fall g.P ((mendN F g.P a).take k.toNat) fs, g.ws, g.p, false, g.k⟩ else none
      | _ => none)
theorem shp_T (f : Fate) : shp 0 (eT f) := by cases f <;> exact ⟨by decide +kernel, by decide +kernel⟩
theorem shp_Ts (fs : List Fate) : shp 1 (eTs fs) := shp_tup fun x hx => by
  obtain ⟨f, _, rfl⟩ := List.mem_map.mp hx
  exact shp_T f
theorem shp_s (x : Str) (h : PyData.canLay0 (.str x) = true) : shp 0 (.str x) := ⟨h, by rw [PyData.depth]; omega⟩
theorem shp_E (e : Ev) : shp 2 (eE e) := by
  cases e with
  | write n =>
    refine shp_tup (k := 1) fun x hx => ?_
    simp only [List.mem_cons, List.not_mem_nil, or_false] at hx
    rcases hx with rfl | rfl
    · exact (shp_s _ (by decide +kernel)).mono (by omega)
    · exact shp_N n
  | sync => exact ⟨by decide +kernel, by decide +kernel⟩
  | cut fs =>
    refine shp_tup (k := 1) fun x hx => ?_
    simp only [List.mem_cons, List.not_mem_nil, or_false] at hx
    rcases hx with rfl | rfl
    · exact (shp_s _ (by decide +kernel)).mono (by omega)
    · exact shp_Ts fs
  | wake => exact ⟨by decide +kernel, by decide +kernel⟩
  | mend k fs =>
    refine shp_tup (k := 1) fun x hx => ?_
    simp only [List.mem_cons, List.not_mem_nil, or_false] at hx
    rcases hx with rfl | rfl | rfl
    · exact (shp_s _ (by decide +kernel)).mono (by omega)
    · exact (shp_int k).mono (by omega)
    · exact shp_Ts fs
section
variable {S S1 : Sto} {δ δ' : DEnv} {F : Fm} {P : Pic} {w : Wv}
theorem mIfS_seq_rt {a b : MS} {c : MT} {r : MS} {w : Wv} {S' : Sto} (h : c δ S = some (true, S)) (ha : a δ S = some (.rt w, S')) : mSeq (mIfS c a b) r δ S = some (.rt w, S') := mSeq_rt ((mIfS_t h).trans ha)
/-- gear[1][its[0]] = its[1] for its in writes -/
theorem put_loop {mi : MI} {m : Nat → Prop} {n : Nat} {g : Gr} {i1 i2 : Nat} {nt : List PyData} {b : Int} {ws : List (Int × CellC)} {u v : Option Wv} {z : Option Wv} (hA : GAt F m S n g i1 i2 nt b) (hp : g.P.length = F.c) (hw : WOk F ws)
    (src : Src mi [u, some (.ref n), v, z, none] S (ws.map fun x => .d (eW x)) (fun _ => True)) :
    ∃ y, mFor mi (nName 4) (mAsgG (gSubD (mBin fIx (mVar 1) (mC (.int 1))) (mBin fIx (mVar 4) (mC (.int 0)))) (mBin fIx (mVar 4) (mC (.int 1)))) [u, some (.ref n), v, z, none] S = some (Fl.nx [u, some (.ref n), v, z, y], S.set i1 (cw (land g.P ws))) := by
  obtain ⟨mn, m1, m2, n1, n2, n12, gn, g1, g2, nk, hq⟩ := hA
  have l1 := get_lt g1
  obtain ⟨δ2, S2, e2, y, rfl, rfl⟩ := for_inv (n := nName 4)
    (b := mAsgG (gSubD (mBin fIx (mVar 1) (mC (.int 1))) (mBin fIx (mVar 4) (mC (.int 0)))) (mBin fIx (mVar 4) (mC (.int 1))))
    (mi := mi) (δ := [u, some (.ref n), v, z, none]) (S := S) ws (fun p => .d (eW p)) (fun p δ' S' => ∃ y, δ' = [u, some (.ref n), v, z, y] ∧ S' = S.set i1 (cw (land g.P p))) (J := fun _ => True) src (fun _ _ _ _ => trivial) (by
      rintro p ⟨k, cc⟩ r δ1 S1 hx ⟨y, rfl, rfl⟩
      have hk : 0 ≤ k ∧ k < F.c := hw (k, cc) (by rw [hx]; simp)
      have hlen : (land g.P p).length = F.c := by rw [land_length, hp]
      refine ⟨_, _, _, rfl, ?_, some (.d (eW (k, cc))), rfl, rfl⟩
      have gn' : (S.set i1 (cw (land g.P p)))[n]? = some (gearL F i1 i2 g.p nt b g.aw) := by rw [List.getElem?_set_ne n1.symm]; exact gn
      refine asgG_v (w := .d (eCC cc)) rfl ((gSub_v (mBin_v rfl rfl (fIx_ref gn' (k := 1) rfl rfl)) rfl (List.getElem?_set_self l1) hk.1 (by rw [cw_length, hlen]; exact hk.2)).trans ?_)
      rw [List.set_set, show (Wv.d (eCC cc)) = Wv.d (eC (some cc)) from rfl, cw_set, land_snoc]
      rfl) ⟨none, rfl, by
        have e0 : land g.P [] = g.P := rfl
        rw [e0]
        exact (set_self g1).symm⟩
  exact ⟨y, e2⟩
theorem v_went {m : Nat → Prop} {n : Nat} {g : Gr} (h : F.Ok) (hp : g.P.length = F.c) (hw : WOk F g.ws) (hl : g.ws.length ≤ F.d) (hk : g.k < 900000) (hg : GearAt F m S n g) (e : Ev) (he : EvOk e) :
    (∀ g', wentN F g e = some g' → ∃ S', g__law_went [.d (eF F), .ref n, .d (eE e)] S = some (.d (.bool true), S') ∧ GearAt F m S' n g' ∧ Pre m S S') ∧ (wentN F g e = none → g__law_went [.d (eF F), .ref n, .d (eE e)] S = some (.d (.bool false), S)) := by
  have h6 := h.c6
  have hdc := h.dc
  have hg0 := hg
  obtain ⟨ok, i1, i2, nt, b, hA⟩ := hg
  have hface := hA.face
  have hA0 := hA
  obtain ⟨mn, m1, m2, n1, n2, n12, gn, g1, g2, nk, hq⟩ := hA
  have ln := get_lt gn
  have l1 := get_lt g1
  have l2 := get_lt g2
  have c0 : mtOr (mtNot (mTst (mCall cIsi (mCons (mVar 2) (mCons (mTy .tuple) mNil))))) (mtOr (mTst (mBin fEq (mVar 2) (mTup mNil))) (mtNot (mTst (mCall cIsi (mCons (mBin fIx (mVar 2) (mC (.int 0))) (mCons (mTy .str) mNil)))))) [some (.d (eF F)), some (.ref n), some (.d (eE e)), none, none] S = some (false, S) :=
    (mtOr_b (p := false) (mtNot_b (p := true) (mTst_b (by cases e <;> rfl))) fun _ => (mtOr_b (p := false) (mTst_b (mBin_v rfl rfl (fEq_of (shp_E e).sh (by decide +kernel) (by cases e <;> rfl)))) fun _ => mtNot_b (p := true) (mTst_b (by cases e <;> rfl))).trans rfl).trans rfl
  have c7 : mTst (mBin fIx (mVar 1) (mC (.int 7))) [some (.d (eF F)), some (.ref n), some (.d (eE e)), none, none] S = some (g.aw, S) := mTst_b (mBin_v rfl rfl (fIx_ref gn (k := 7) rfl rfl))
  have csync : mTst (mBin fEq (mVar 2) (mTup (mCons (mC (.str "sync")) mNil))) [some (.d (eF F)), some (.ref n), some (.d (eE e)), none, none] S = some (decide (e = .sync), S) := mTst_b (mBin_v rfl rfl (fEq_of (shp_E e).sh (by decide +kernel) (by cases e <;> kernel_rfl)))
  have ff : ∀ {c2 : MT} {x : Ev}, e = x → mTst (mBin fEq (mBin fIx (mVar 2) (mC (.int 0))) (mC (.str "write"))) [some (.d (eF F)), some (.ref n), some (.d (eE e)), none, none] S = some (false, S) → mtAnd (mTst (mBin fEq (mBin fIx (mVar 2) (mC (.int 0))) (mC (.str "write")))) c2 [some (.d (eF F)), some (.ref n), some (.d (eE e)), none, none] S = some (false, S) := fun _ h => (mtAnd_b (p := false) (q := false) h (fun z => by cases z)).trans rfl
  have fc : ∀ {c2 : MT}, mTst (mBin fEq (mBin fIx (mVar 2) (mC (.int 0))) (mC (.str "cut"))) [some (.d (eF F)), some (.ref n), some (.d (eE e)), none, none] S = some (false, S) → mtAnd (mTst (mBin fEq (mBin fIx (mVar 2) (mC (.int 0))) (mC (.str "cut")))) c2 [some (.d (eF F)), some (.ref n), some (.d (eE e)), none, none] S = some (false, S) := fun h => (mtAnd_b (p := false) (q := false) h (fun z => by cases z)).trans rfl
  have fm : ∀ {c2 : MT}, mTst (mBin fEq (mBin fIx (mVar 2) (mC (.int 0))) (mC (.str "mend"))) [some (.d (eF F)), some (.ref n), some (.d (eE e)), none, none] S = some (false, S) → mtAnd (mTst (mBin fEq (mBin fIx (mVar 2) (mC (.int 0))) (mC (.str "mend")))) c2 [some (.d (eF F)), some (.ref n), some (.d (eE e)), none, none] S = some (false, S) := fun h => (mtAnd_b (p := false) (q := false) h (fun z => by cases z)).trans rfl
  cases haw : g.aw with
  | true =>
    rw [haw] at c7
    cases e with
    | write nn =>
      have e0 : wentN F g (.write nn) = some (writeG F g nn) := by unfold wentN; rw [haw]; rfl
      rw [e0]
      refine ⟨fun g' hg' => ?_, fun z => by cases z⟩
      cases hg'
      obtain ⟨S', e1, hg1, p1⟩ := v_write h hp hw hl hk hg0 nn
      refine ⟨S', sem_rt ((guard_f c0 rfl).trans (mIfS_seq_rt c7 (seq ((mIfS_t (S' := S) ?_).trans (mDrop_v (cl rfl e1))) (mRet_w rfl)))), hg1, p1⟩
      cases nn <;> kernel_rfl
    | sync =>
      have e0 : wentN F g .sync = some ⟨land g.P g.ws, [], g.p, true, g.k⟩ := by unfold wentN; rw [haw]; rfl
      rw [e0]
      refine ⟨fun g' hg' => ?_, fun z => by cases z⟩
      cases hg'
      obtain ⟨S', e1, hg1, p1⟩ := v_stand h hp hw hg0
      rw [haw] at hg1
      exact ⟨S', sem_rt ((guard_f c0 rfl).trans (mIfS_seq_rt c7 (seq ((mIfS_f (ff rfl (by kernel_rfl))).trans ((mIfS_t csync).trans (mDrop_v (cl rfl e1)))) (mRet_w rfl)))), hg1, p1⟩
    | cut fs =>
      have he : fs.length < 1000 := he
      have cc : mtAnd (mTst (mBin fEq (mBin fIx (mVar 2) (mC (.int 0))) (mC (.str "cut")))) (mtAnd (mTst (mBin fEq (mCall cLen (mCons (mVar 2) mNil)) (mC (.int 2)))) (mTst (mCall g__law_are_fates (mCons (mBin fIx (mVar 2) (mC (.int 1))) (mCons (mCall cLen (mCons (mBin fIx (mVar 1) (mC (.int 2))) mNil)) mNil)))))
          [some (.d (eF F)), some (.ref n), some (.d (eE (.cut fs))), none, none] S = some (decide ((fs.length : Int) = (ww g.ws).length), S) :=
        (mtAnd_b (p := true) (by kernel_rfl) fun _ => (mtAnd_b (p := true) (by kernel_rfl) fun _ => mTst_b (cl (mCons_v rfl (mCons_v (cl (mCons_v (mBin_v rfl rfl (fIx_ref gn (k := 2) rfl rfl)) rfl) (cLen_ref g2)) rfl)) (v_lare_fates fs _ he))).trans rfl).trans rfl
      have lw : (ww g.ws).length = g.ws.length := by unfold ww; simp
      rw [lw] at cc
      by_cases q : fs.length = g.ws.length
      · have e0 : wentN F g (.cut fs) = some ⟨fall g.P g.ws fs, [], g.p, false, g.k⟩ := by
          unfold wentN
          rw [haw]
          show (if fs.length = g.ws.length then _ else _) = _
          rw [if_pos q]
        rw [e0]
        refine ⟨fun g' hg' => ?_, fun z => by cases z⟩
        cases hg'
        obtain ⟨S', e1, hg1, p1⟩ := v_cut h hp hw hg0 fs q
        exact ⟨S', sem_rt ((guard_f c0 rfl).trans (mIfS_seq_rt c7 (seq ((mIfS_f (ff rfl (by kernel_rfl))).trans ((mIfS_f csync).trans ((mIfS_t (cc.trans (by simp [q]))).trans (mDrop_v (cl rfl e1))))) (mRet_w rfl)))), hg1, p1⟩
      · have e0 : wentN F g (.cut fs) = none := by
          unfold wentN
          rw [haw]
          show (if fs.length = g.ws.length then _ else _) = _
          rw [if_neg q]
        rw [e0]
        refine ⟨fun g' hg' => (by cases hg'), fun _ => ?_⟩
        exact sem_rt ((guard_f c0 rfl).trans (mIfS_seq_rt c7 (mSeq_rt ((mIfS_f (ff rfl (by kernel_rfl))).trans ((mIfS_f csync).trans ((mIfS_f (cc.trans (by simp; omega))).trans (mRet_w rfl)))))))
    | wake =>
      have e0 : wentN F g .wake = none := by unfold wentN; rw [haw]; rfl
      rw [e0]
      refine ⟨fun g' hg' => (by cases hg'), fun _ => ?_⟩
      exact sem_rt ((guard_f c0 rfl).trans (mIfS_seq_rt c7 (mSeq_rt ((mIfS_f (ff rfl (by kernel_rfl))).trans ((mIfS_f csync).trans ((mIfS_f (fc (by kernel_rfl))).trans (mRet_w rfl)))))))
    | mend k fs =>
      have e0 : wentN F g (.mend k fs) = none := by unfold wentN; rw [haw]; rfl
      rw [e0]
      refine ⟨fun g' hg' => (by cases hg'), fun _ => ?_⟩
      exact sem_rt ((guard_f c0 rfl).trans (mIfS_seq_rt c7 (mSeq_rt ((mIfS_f (ff rfl (by kernel_rfl))).trans ((mIfS_f csync).trans ((mIfS_f (fc (by kernel_rfl))).trans (mRet_w rfl)))))))
  | false =>
    rw [haw] at c7
    have hpic : mCall cTuple (mCons (mBin fIx (mVar 1) (mC (.int 1))) mNil) [some (.d (eF F)), some (.ref n), some (.d (eE e)), none, none] S = some (.d (eP g.P), S) := cl (mCons_v (mBin_v rfl rfl (fIx_ref gn (k := 1) rfl rfl)) rfl) (cTuple_ref (by rw [← cw_eq]; exact g1))
    have hans : mSet 3 (mCall g__law_answer (mCons (mVar 0) (mCons (mCall cTuple (mCons (mBin fIx (mVar 1) (mC (.int 1))) mNil)) mNil))) [some (.d (eF F)), some (.ref n), some (.d (eE e)), none, none] S = some (Fl.nx [some (.d (eF F)), some (.ref n), some (.d (eE e)), some (.d (eO (answerG F g.P))), none], S) := mSet_v (cl (mCons_v rfl (mCons_v hpic rfl)) (v_answer ok h hp (.inl rfl)))
    cases ha : answerG F g.P with
    | none =>
      have e0 : wentN F g e = none := by unfold wentN; rw [haw, ha]; rfl
      rw [e0]
      refine ⟨fun g' hg' => (by cases hg'), fun _ => ?_⟩
      rw [ha] at hans
      exact sem_rt ((guard_f c0 rfl).trans ((guard_f c7 rfl).trans (seq hans (guard_t (p := true) (mTst_b (mBin_v rfl rfl rfl)) rfl (mRet_w rfl)))))
    | some a =>
      rw [ha] at hans
      have hnn : mTst (mBin fIs (mVar 3) (mC .none)) [some (.d (eF F)), some (.ref n), some (.d (eE e)), some (.d (eO (some a))), none] S = some (false, S) := mTst_b (mBin_v rfl rfl rfl)
      have hmend : mCall g__law_mending (mCons (mVar 0) (mCons (mBin fIx (mVar 1) (mC (.int 1))) mNil)) [some (.d (eF F)), some (.ref n), some (.d (eE e)), some (.d (eO (some a))), none] S = some (.d (.list ((mendN F g.P a).map eW)), S) := cl (mCons_v rfl (mCons_v (mBin_v rfl rfl (fIx_ref gn (k := 1) rfl rfl)) rfl)) (v_mending ok h hp hface ha)
      have fm : ∀ {c2 : MT}, mTst (mBin fEq (mBin fIx (mVar 2) (mC (.int 0))) (mC (.str "mend"))) [some (.d (eF F)), some (.ref n), some (.d (eE e)), some (.d (eO (some a))), none] S = some (false, S) → mtAnd (mTst (mBin fEq (mBin fIx (mVar 2) (mC (.int 0))) (mC (.str "mend")))) c2 [some (.d (eF F)), some (.ref n), some (.d (eE e)), some (.d (eO (some a))), none] S = some (false, S) := fun h => (mtAnd_b (p := false) (q := false) h (fun z => by cases z)).trans rfl
      have cwake : mTst (mBin fEq (mVar 2) (mTup (mCons (mC (.str "wake")) mNil))) [some (.d (eF F)), some (.ref n), some (.d (eE e)), some (.d (eO (some a))), none] S = some (decide (e = .wake), S) := mTst_b (mBin_v rfl rfl (fEq_of (shp_E e).sh (by decide +kernel) (by cases e <;> kernel_rfl)))
      cases e with
      | write nn =>
        have e0 : wentN F g (.write nn) = none := by unfold wentN; rw [haw, ha]; rfl
        rw [e0]
        refine ⟨fun g' hg' => (by cases hg'), fun _ => ?_⟩
        exact sem_rt ((guard_f c0 rfl).trans ((guard_f c7 rfl).trans (seq hans ((guard_f hnn rfl).trans (seq ((mIfS_f (fm (by kernel_rfl))).trans ((mIfS_f cwake).trans rfl)) (mRet_w rfl))))))
      | sync =>
        have e0 : wentN F g .sync = none := by unfold wentN; rw [haw, ha]; rfl
        rw [e0]
        refine ⟨fun g' hg' => (by cases hg'), fun _ => ?_⟩
        exact sem_rt ((guard_f c0 rfl).trans ((guard_f c7 rfl).trans (seq hans ((guard_f hnn rfl).trans (seq ((mIfS_f (fm (by kernel_rfl))).trans ((mIfS_f cwake).trans rfl)) (mRet_w rfl))))))
      | cut fs =>
        have e0 : wentN F g (.cut fs) = none := by unfold wentN; rw [haw, ha]; rfl
        rw [e0]
        refine ⟨fun g' hg' => (by cases hg'), fun _ => ?_⟩
        exact sem_rt ((guard_f c0 rfl).trans ((guard_f c7 rfl).trans (seq hans ((guard_f hnn rfl).trans (seq ((mIfS_f (fm (by kernel_rfl))).trans ((mIfS_f cwake).trans rfl)) (mRet_w rfl))))))
      | wake =>
        have e0 : wentN F g .wake = some ⟨land g.P (mendN F g.P a), g.ws, a, true, g.k⟩ := by unfold wentN; rw [haw, ha]; rfl
        rw [e0]
        refine ⟨fun g' hg' => ?_, fun z => by cases z⟩
        cases hg'
        obtain ⟨y, e2⟩ := put_loop (ws := mendN F g.P a) (u := some (.d (eF F))) (v := some (.d (eE .wake))) (z := some (.d (eO (some a)))) (mi := mIter (mCall g__law_mending (mCons (mVar 0) (mCons (mBin fIx (mVar 1) (mC (.int 1))) mNil)))) hA0 hp (mendN_ok h _ _) (by
          have := src_list (J := fun _ => True) hmend
          rw [List.map_map] at this
          exact this)
        have gn2 : (S.set i1 (cw (land g.P (mendN F g.P a))))[n]? = some (gearL F i1 i2 g.p nt b g.aw) := by rw [List.getElem?_set_ne n1.symm]; exact gn
        have fin : mAsgT (gsCons (gSubD (mVar 1) (mC (.int 3))) (gsCons (gSubD (mVar 1) (mC (.int 5))) (gsCons (gSubD (mVar 1) (mC (.int 7))) gsNil))) (mCons (mVar 3) (mCons (mVar 3) (mCons (mC (.bool true)) mNil))) [some (.d (eF F)), some (.ref n), some (.d (eE .wake)), some (.d (eO (some a))), y] (S.set i1 (cw (land g.P (mendN F g.P a)))) =
            some (Fl.nx [some (.d (eF F)), some (.ref n), some (.d (eE .wake)), some (.d (eO (some a))), y], (S.set i1 (cw (land g.P (mendN F g.P a)))).set n (gearL F i1 i2 a nt a true)) := by
          refine asgT_v (ws := [.d (.int a), .d (.int a), .d (.bool true)]) (mCons_v rfl (mCons_v rfl (mCons_v rfl rfl))) (by simp) ?_
          refine gsCons_v (gSub_v rfl rfl gn2 (by omega) (by unfold gearL; simp)) (gsCons_v (gSub_v rfl rfl (List.getElem?_set_self (by simp; omega)) (by omega) (by unfold gearL; simp)) (gsCons_v (gSub_v rfl rfl (List.getElem?_set_self (by simp; omega)) (by omega) (by unfold gearL; simp)) ?_))
          rw [List.set_set, List.set_set]
          rfl
        refine ⟨(S.set i1 (cw (land g.P (mendN F g.P a)))).set n (gearL F i1 i2 a nt a true), ?_, ⟨?_, i1, i2, nt, a, ?_⟩, ?_⟩
        · exact sem_rt ((guard_f c0 rfl).trans ((guard_f c7 rfl).trans (seq hans ((guard_f hnn rfl).trans (mSeq_rt ((mIfS_f (fm (by kernel_rfl))).trans ((mIfS_t cwake).trans (seq e2 (seq fin (mRet_w rfl))))))))))
        · refine (ok.set (ok_cw _ _)).set (ok_gear ?_ ?_) <;> simp <;> omega
        · refine ⟨mn, m1, m2, n1, n2, n12, List.getElem?_set_self (by simp; omega), ?_, ?_, nk, fun i hi => Nat.lt_of_lt_of_le (hq i hi) (by first | (simp; done) | (simp; omega) | omega)⟩
          · rw [List.getElem?_set_ne n1, List.getElem?_set_self l1]
          · rw [List.getElem?_set_ne n2, List.getElem?_set_ne n12]; exact g2
        · exact (pre_set m1).trans (pre_set mn)
      | mend k fs =>
        have he : fs.length < 1000 := he
        have c3 : mtAnd (mTst (mBin fEq (mBin fIx (mVar 2) (mC (.int 0))) (mC (.str "mend")))) (mtAnd (mTst (mBin fEq (mCall cLen (mCons (mVar 2) mNil)) (mC (.int 3)))) (mtAnd (mTst (mCall cIsi (mCons (mBin fIx (mVar 2) (mC (.int 1))) (mCons (mTy .int) mNil)))) (mtNot (mTst (mCall cIsi (mCons (mBin fIx (mVar 2) (mC (.int 1))) (mCons (mTy .bool) mNil))))))) [some (.d (eF F)), some (.ref n), some (.d (eE (.mend k fs))), some (.d (eO (some a))), none] S = some (true, S) := by kernel_rfl
        have c4 : mtAnd (mTst (mChain fLe fLe (mC (.int 0)) (mBin fIx (mVar 2) (mC (.int 1))) (mCall cLen (mCons (mCall g__law_mending (mCons (mVar 0) (mCons (mBin fIx (mVar 1) (mC (.int 1))) mNil))) mNil)))) (mTst (mCall g__law_are_fates (mCons (mBin fIx (mVar 2) (mC (.int 2))) (mCons (mBin fIx (mVar 2) (mC (.int 1))) mNil)))) [some (.d (eF F)), some (.ref n), some (.d (eE (.mend k fs))), some (.d (eO (some a))), none] S =
            some ((decide (0 ≤ k) && decide (k ≤ (((mendN F g.P a).map eW).length : Nat))) && decide ((fs.length : Int) = k), S) :=
          mtAnd_b (mTst_b (mChain_b rfl rfl rfl (cl (mCons_v hmend rfl) (cLen_list _)) rfl)) fun _ => mTst_b (cl rfl (v_lare_fates fs k he))
        rw [List.length_map] at c4
        have e0 : wentN F g (.mend k fs) = if 0 ≤ k ∧ k ≤ ((mendN F g.P a).length : Nat) ∧ (fs.length : Int) = k then some ⟨fall g.P ((mendN F g.P a).take k.toNat) fs, g.ws, g.p, false, g.k⟩ else none := by unfold wentN; rw [haw, ha]; rfl
        rw [e0]
        by_cases q : 0 ≤ k ∧ k ≤ ((mendN F g.P a).length : Nat) ∧ (fs.length : Int) = k
        · rw [if_pos q]
          refine ⟨fun g' hg' => ?_, fun z => by cases z⟩
          cases hg'
          obtain ⟨q1, q2, q3⟩ := q
          have ek : k = ((k.toNat : Nat) : Int) := by omega
          obtain ⟨S', e1, hg1, p1⟩ := v_mend h hp hg0 ha k.toNat fs (by omega) (by omega)
          rw [← ek, haw] at *
          refine ⟨S', sem_rt ((guard_f c0 rfl).trans ((guard_f c7 rfl).trans (seq hans ((guard_f hnn rfl).trans (mSeq_rt ((mIfS_t c3).trans ((mIfS_t (c4.trans ?_)).trans (seq (mDrop_v (cl rfl e1)) (mRet_w rfl))))))))), hg1, p1⟩
          simp [q1, q2, q3]
        · rw [if_neg q]
          refine ⟨fun g' hg' => (by cases hg'), fun _ => ?_⟩
          refine sem_rt ((guard_f c0 rfl).trans ((guard_f c7 rfl).trans (seq hans ((guard_f hnn rfl).trans (seq ((mIfS_t c3).trans ((mIfS_f (c4.trans ?_)).trans rfl)) (mRet_w rfl))))))
          congr 2
          by_cases a1 : 0 ≤ k
          · by_cases a2 : k ≤ ((mendN F g.P a).length : Nat)
            · by_cases a3 : (fs.length : Int) = k
              · exact absurd ⟨a1, a2, a3⟩ q
              · simp [a3]
            · simp [a2]
          · simp [a1]
end
end K15
set_option Elab.async false
set_option linter.all false
set_option maxRecDepth 100000
set_option maxHeartbeats 4000000
set_option autoImplicit false
namespace K15
open PySem PySem.Spec PyProof.Rows L2
structure Seqd (w : Wv) (t : Bool) (xs : List PyData) (S : Sto) : Prop where
  sq : rdSq S w = some (t, xs.map .d)
  il : isiW w .list = some (!t)
  it : isiW w .tuple = some t
  ln : cLen [w] S = some (.d (.int (xs.length : Nat)), S)
theorem seqd_tup {xs : List PyData} {S : Sto} : Seqd (.d (.tuple xs)) true xs S := ⟨rfl, rfl, rfl, rfl⟩
theorem seqd_list {xs : List PyData} {S : Sto} : Seqd (.d (.list xs)) false xs S := ⟨rfl, rfl, rfl, cLen_list xs⟩
theorem seqd_ref {n : Nat} {xs : List PyData} {S : Sto} (h : S[n]? = some (xs.map .d)) : Seqd (.ref n) false xs S := ⟨by show (S[n]?).map _ = _; rw [h]; rfl, rfl, rfl, by rw [cLen_ref h, List.length_map]⟩
theorem fBool_ne (a b : Bool) (S : Sto) : fNe (.d (.bool a)) (.d (.bool b)) S = some (.d (.bool (a != b)), S) := by cases a <;> cases b <;> kernel_rfl
theorem fBool_eq (a b : Bool) (S : Sto) : fEq (.d (.bool a)) (.d (.bool b)) S = some (.d (.bool (a == b)), S) := by cases a <;> cases b <;> kernel_rfl
section
variable {S S1 : Sto} {δ δ' : DEnv} {F : Fm} {P : Pic} {w : Wv}
theorem ci {a : ME} {x : Ty5} {w : Wv} {b : Bool} (h : a δ S = some (w, S)) (hi : isiW w x = some b) : mCall cIsi (mCons a (mCons (mTy x) mNil)) δ S = some (.d (.bool b), S) := by
  refine cl (mCons_v h rfl) ?_
  show (isiW w x).map _ = _
  rw [hi]
  rfl
theorem same_node (g : FC) {w1 w2 : Wv} {t1 t2 : Bool} {xs ys : List PyData} (h1 : Seqd w1 t1 xs S) (h2 : Seqd w2 t2 ys S) (hlen : ys.length < 1000000)
    (hg : ∀ (i : Nat) (x y : PyData), xs[i]? = some x → ys[i]? = some y → ∃ b, g [.d x, .d y] S = some (.d (.bool b), S) ∧ (b = true ↔ x = y)) :
    ∃ b, sem 4 (m__law_same g) [w1, w2] S = some (.d (.bool b), S) ∧ (b = true ↔ t1 = t2 ∧ xs = ys) := by
  have c1 : mTst (mCall cIsi (mCons (mVar 1) (mCons (mTupTy (mCons (mTy .list) (mCons (mTy .tuple) mNil))) mNil))) [some w1, some w2, none, none] S = some (true, S) := by
    refine mTst_b (cl rfl ?_)
    show (isiAny w2 [.list, .tuple]).map _ = _
    unfold isiAny
    rw [h2.il]
    cases t2 with
    | false => rfl
    | true =>
      show (isiAny w2 [.tuple]).map _ = _
      unfold isiAny
      rw [h2.it]
      rfl
  have c2 : mtOr (mTst (mBin fNe (mCall cIsi (mCons (mVar 0) (mCons (mTy .list) mNil))) (mCall cIsi (mCons (mVar 1) (mCons (mTy .list) mNil))))) (mTst (mBin fNe (mCall cIsi (mCons (mVar 0) (mCons (mTy .tuple) mNil))) (mCall cIsi (mCons (mVar 1) (mCons (mTy .tuple) mNil))))) [some w1, some w2, none, none] S = some (((!t1) != (!t2)) || (t1 != t2), S) :=
    mtOr_b (mTst_b (mBin_v (ci rfl h1.il) (ci rfl h2.il) (fBool_ne _ _ _))) fun _ => mTst_b (mBin_v (ci rfl h1.it) (ci rfl h2.it) (fBool_ne _ _ _))
  by_cases ht : t1 = t2
  · subst ht
    have c2' : (((!t1) != (!t1)) || (t1 != t1)) = false := by cases t1 <;> rfl
    by_cases hl : xs.length = ys.length
    · obtain ⟨acc, S', e1, rfl, bs, rfl, hbs⟩ : ∃ acc S', mComp (mZip (mVar 0) (mVar 1)) (nTup (nCons (nName 2) (nCons (nName 3) nNil))) mtYes (mCall g (mCons (mVar 2) (mCons (mVar 3) mNil))) [2, 3] [some w1, some w2, none, none] S = some (acc, S') ∧ S' = S ∧ ∃ bs : List Bool, acc = bs.map (fun b => .d (.bool b)) ∧ (bs.all id = true ↔ (xs.zip ys).all (fun p => @decide (p.1 = p.2) (Classical.propDecidable _)) = true) := by
        refine comp_inv (xs.zip ys) (fun p => .d (.tuple [p.1, p.2])) (fun p acc S' => S' = S ∧ ∃ bs : List Bool, acc = bs.map (fun b => .d (.bool b)) ∧ (bs.all id = true ↔ p.all (fun p => @decide (p.1 = p.2) (Classical.propDecidable _)) = true)) (J := fun S' => S' = S) ?_ (fun _ _ _ h => h.1) (by simp; omega) ?_ ⟨rfl, [], rfl, by simp⟩
        · have := src_zip (a := mVar 0) (b := mVar 1) (δ := [some w1, some w2, none, none]) (S := S) (ds := xs) (es := ys) (w1 := w1) (w2 := w2) (J := fun S' => S' = S) rfl rfl ⟨⟨_, h1.sq⟩, ⟨_, h2.sq⟩⟩ (fun S' e => by rw [e]; exact ⟨⟨_, h1.sq⟩, ⟨_, h2.sq⟩⟩) (by omega)
          have e2 := prs_map (fun x : PyData => x) (fun x : PyData => x) xs ys
          simp only [List.map_id'] at e2
          rw [e2, List.map_map] at this
          exact this
        · rintro p ⟨x, y⟩ r acc S1 hx ⟨rfl, bs, rfl, hbs⟩
          have hz : (xs.zip ys)[p.length]? = some (x, y) := by rw [hx]; simp
          have hz2 := List.getElem?_zip_eq_some.mp hz
          obtain ⟨b, hb, hiff⟩ := hg p.length x y hz2.1 hz2.2
          refine ⟨[(2, .d x), (3, .d y)], rfl, .inr ⟨S1, .d (.bool b), S1, rfl, cl rfl hb, rfl, bs ++ [b], by simp, ?_⟩⟩
          rw [List.all_append, List.all_append, Bool.and_eq_true, Bool.and_eq_true, hbs]
          simp [hiff]
      refine ⟨bs.all id, ?_, ?_⟩
      · have e2 : bs.map (fun b => Wv.d (.bool b)) = (bs.map PyData.bool).map .d := by rw [List.map_map]; rfl
        rw [e2] at e1
        refine sem_rt (mIfS_seq_rt c1 ((guard_f c2 c2').trans (mRet_w ?_)))
        refine (mAnd_bb (p := true) (mBin_v (cl rfl h1.ln) (cl rfl h2.ln) ((fEq_int _ _).trans (by rw [decide_eq_true (by omega)]))) fun _ => cl (mCons_v (mImm_v e1) rfl) (cAll_list bs)).trans rfl
      · rw [hbs]
        simp only [true_and]
        constructor
        · intro h
          rw [List.all_eq_true] at h
          apply List.ext_getElem hl
          intro i a1 a2
          have := h (xs[i], ys[i]) (by
            rw [List.mem_iff_getElem]
            exact ⟨i, by simp; omega, by simp⟩)
          simpa using this
        · intro h
          subst h
          rw [List.all_eq_true]
          intro p hp
          obtain ⟨i, hi, e⟩ := List.mem_iff_getElem.mp hp
          simp at e
          rw [← e]
          simp
    · refine ⟨false, ?_, ?_⟩
      · refine sem_rt (mIfS_seq_rt c1 ((guard_f c2 c2').trans (mRet_w ?_)))
        exact (mAnd_bb (p := false) (q := false) (mBin_v (cl rfl h1.ln) (cl rfl h2.ln) ((fEq_int _ _).trans (by rw [decide_eq_false (by omega)]))) fun z => by cases z).trans rfl
      · simp only [Bool.false_eq_true, true_and, false_iff]
        intro h
        exact hl (by rw [h])
  · refine ⟨false, ?_, by simp [ht]⟩
    refine sem_rt (mIfS_seq_rt c1 (guard_t c2 ?_ (mRet_w rfl)))
    cases t1 <;> cases t2 <;> first | rfl | exact absurd rfl ht
end
end K15
set_option Elab.async false
set_option linter.all false
set_option maxRecDepth 100000
set_option maxHeartbeats 4000000
set_option autoImplicit false
namespace K15
open PySem PySem.Spec PyProof.Rows L2
inductive Nest : Nat → PyData → Prop
  | non (k : Nat) : Nest k .none
  | bl (k : Nat) (b : Bool) : Nest k (.bool b)
  | int (k : Nat) (i : Int) : Nest k (.int i)
  | str (k : Nat) (x : Str) : Nest k (.str x)
  | list (k : Nat) (l : List PyData) : l.length < 1000000 → (∀ x ∈ l, Nest k x) → Nest (k + 1) (.list l)
  | tuple (k : Nat) (l : List PyData) : l.length < 1000000 → (∀ x ∈ l, Nest k x) → Nest (k + 1) (.tuple l)
theorem Nest.mono {k : Nat} {y : PyData} (h : Nest k y) : ∀ {j : Nat}, k ≤ j → Nest j y := by
  induction h with
  | non k => intro j _; exact .non j
  | bl k b => intro j _; exact .bl j b
  | int k i => intro j _; exact .int j i
  | str k x => intro j _; exact .str j x
  | list k l h1 h2 ih =>
    intro j hj
    obtain ⟨j, rfl⟩ : ∃ i, j = i + 1 := ⟨j - 1, by omega⟩
    exact .list j l h1 fun x hx => ih x hx (by omega)
  | tuple k l h1 h2 ih =>
    intro j hj
    obtain ⟨j, rfl⟩ : ∃ i, j = i + 1 := ⟨j - 1, by omega⟩
    exact .tuple j l h1 fun x hx => ih x hx (by omega)
theorem can_mem : ∀ {xs : List PyData}, PyData.canLayAll0 xs = true → ∀ x ∈ xs, x.canLay0 = true
  | [], _, x, hx => by simp at hx
  | a :: l, h, x, hx => by
    rw [PyData.canLayAll0, Bool.and_eq_true] at h
    rcases List.mem_cons.mp hx with rfl | hx
    · exact h.1
    · exact can_mem h.2 x hx
theorem dep_mem {k : Nat} : ∀ {xs : List PyData}, PyData.depthAll xs ≤ k → ∀ x ∈ xs, x.depth ≤ k
  | [], _, x, hx => by simp at hx
  | a :: l, h, x, hx => by
    rw [PyData.depthAll] at h
    rcases List.mem_cons.mp hx with rfl | hx
    · exact Nat.le_trans (Nat.le_max_left _ _) h
    · exact dep_mem (Nat.le_trans (Nat.le_max_right _ _) h) x hx
theorem shp_mem_tup {k : Nat} {xs : List PyData} (h : shp k (.tuple xs)) : ∀ x ∈ xs, shp k x := fun x hx => by
  obtain ⟨h1, h2⟩ := h
  rw [PyData.canLay0] at h1
  rw [PyData.depth] at h2
  exact ⟨can_mem h1 x hx, dep_mem (k := k) (by omega) x hx⟩
theorem shp_mem_list {k : Nat} {xs : List PyData} (h : shp k (.list xs)) : ∀ x ∈ xs, shp k x := fun x hx => by
  obtain ⟨h1, h2⟩ := h
  rw [PyData.canLay0] at h1
  rw [PyData.depth] at h2
  exact ⟨can_mem h1 x hx, dep_mem (k := k) (by omega) x hx⟩
theorem noDict {k : Nat} {x : PyData} (h : shp k x) (t : Ty5) : isiW (.d x) t = some (isi x t) := by
  cases x with
  | dict l =>
    have := h.1
    rw [PyData.canLay0] at this
    cases this
  | _ => rfl
section
variable {S S1 : Sto} {δ δ' : DEnv} {F : Fm} {P : Pic} {w : Wv}
theorem same_leafA (g : FC) {x y : PyData} (hx : shp 60 x) (hy : shp 60 y) (h1 : isiAny (.d y) [.list, .tuple] = some false) (h2 : (isNon (.d y) || isi y .bool || isi y .str) = true) (h3 : isiAny (.d y) [.bool, .str] = some (isi y .bool || isi y .str)) :
    sem 4 (m__law_same g) [.d x, .d y] S = some (.d (.bool (PyData.eqv x y && ((isi x .bool == isi y .bool) && (isNon (.d x) == isNon (.d y))))), S) := by
  have c1 : mTst (mCall cIsi (mCons (mVar 1) (mCons (mTupTy (mCons (mTy .list) (mCons (mTy .tuple) mNil))) mNil))) [some (.d x), some (.d y), none, none] S = some (false, S) := by
    refine mTst_b (cl rfl ?_)
    show (isiAny (.d y) [.list, .tuple]).map _ = _
    rw [h1]
    rfl
  have c2 : mtOr (mTst (mBin fIs (mVar 1) (mC .none))) (mTst (mCall cIsi (mCons (mVar 1) (mCons (mTupTy (mCons (mTy .bool) (mCons (mTy .str) mNil))) mNil)))) [some (.d x), some (.d y), none, none] S = some (isNon (.d y) || (isi y .bool || isi y .str), S) :=
    mtOr_b (mTst_b (mBin_v rfl rfl rfl)) fun _ => mTst_b (cl rfl (by
      show (isiAny (.d y) [.bool, .str]).map _ = _
      rw [h3]
      rfl))
  refine sem_rt ((guard_f c1 rfl).trans (guard_t c2 (by rw [← Bool.or_assoc]; exact h2) (mRet_w ?_)))
  exact mAnd_bb (mBin_v rfl rfl (fEq_of hx.sh hy.sh rfl)) fun _ => mAnd_bb (mBin_v (ci rfl (noDict hx _)) (ci rfl (noDict hy _)) (fBool_eq _ _ _)) fun _ => mBin_v (mBin_v rfl rfl rfl) (mBin_v rfl rfl rfl) (fBool_eq _ _ _)
theorem same_leafI (g : FC) {x : PyData} (hx : shp 60 x) (j : Int) : sem 4 (m__law_same g) [.d x, .d (.int j)] S = some (.d (.bool (isi x .int && (!isi x .bool && PyData.eqv x (.int j)))), S) := by
  refine sem_rt ((guard_f (p := false) (mTst_b rfl) rfl).trans ((guard_f (p := false) ((mtOr_b (p := false) (q := false) (mTst_b rfl) fun _ => mTst_b rfl).trans rfl) rfl).trans (mRet_w ?_)))
  exact mAnd_bb (ci rfl (noDict hx _)) fun _ => mAnd_bb (mNot_b (ci rfl (noDict hx _))) fun _ => mBin_v rfl rfl (fEq_of hx.sh (sh_int j) rfl)
theorem gs_succ (k : Nat) : gR__law_same (k + 1) = sem 4 (m__law_same (gR__law_same k)) := rfl
theorem v_sameR : ∀ (k : Nat) (y x : PyData), Nest k y → shp 60 y → shp 60 x → ∃ b, gR__law_same (k + 1) [.d x, .d y] S = some (.d (.bool b), S) ∧ (b = true ↔ x = y) := by
  intro k
  induction k with
  | zero =>
    intro y x hn hy hx
    rw [gs_succ]
    cases hn with
    | non => exact ⟨_, same_leafA _ hx hy rfl rfl rfl, by cases x <;> simp [PyData.eqv, isNon, isi]⟩
    | bl k b => exact ⟨_, same_leafA _ hx hy rfl rfl rfl, by cases x <;> simp [PyData.eqv, isNon, isi]⟩
    | int k i => exact ⟨_, same_leafI _ hx i, by cases x <;> simp [PyData.eqv, isNon, isi]⟩
    | str k s => exact ⟨_, same_leafA _ hx hy rfl rfl rfl, by cases x <;> simp [PyData.eqv, isNon, isi]⟩
  | succ k ih =>
    intro y x hn hy hx
    rw [gs_succ]
    cases hn with
    | non => exact ⟨_, same_leafA _ hx hy rfl rfl rfl, by cases x <;> simp [PyData.eqv, isNon, isi]⟩
    | bl k b => exact ⟨_, same_leafA _ hx hy rfl rfl rfl, by cases x <;> simp [PyData.eqv, isNon, isi]⟩
    | int k i => exact ⟨_, same_leafI _ hx i, by cases x <;> simp [PyData.eqv, isNon, isi]⟩
    | str k s => exact ⟨_, same_leafA _ hx hy rfl rfl rfl, by cases x <;> simp [PyData.eqv, isNon, isi]⟩
    | list _ l h1 h2 =>
      have noseq : ∀ z, shp 60 z → isi z .list = false → sem 4 (m__law_same (gR__law_same (k + 1))) [.d z, .d (.list l)] S = some (.d (.bool false), S) := fun z hz e => by
        refine sem_rt (mIfS_seq_rt (mTst_b (p := true) rfl) (guard_t (p := true) ((mtOr_b (p := true) (q := true) (mTst_b (mBin_v (ci rfl (noDict hz _)) (ci rfl rfl) ((fBool_ne _ _ _).trans ?_))) (fun q => by cases q)).trans rfl) rfl (mRet_w rfl)))
        rw [e]
        rfl
      cases x with
      | list m =>
        obtain ⟨b, e, hb⟩ := same_node (gR__law_same (k + 1)) (seqd_list (xs := m) (S := S)) (seqd_list (xs := l) (S := S)) h1 fun i a c ha hc => ih c a (h2 c (List.mem_of_getElem? hc)) (shp_mem_list hy c (List.mem_of_getElem? hc)) (shp_mem_list hx a (List.mem_of_getElem? ha))
        exact ⟨b, e, by rw [hb]; simp⟩
      | dict d => have := hx.1; rw [PyData.canLay0] at this; cases this
      | _ => exact ⟨false, noseq _ hx rfl, by simp⟩
    | tuple _ l h1 h2 =>
      have noseq : ∀ z, shp 60 z → isi z .list = false → isi z .tuple = false → sem 4 (m__law_same (gR__law_same (k + 1))) [.d z, .d (.tuple l)] S = some (.d (.bool false), S) := fun z hz e e2 => by
        refine sem_rt (mIfS_seq_rt (mTst_b (p := true) rfl) (guard_t (p := true) ((mtOr_b (p := false) (q := true) (mTst_b (mBin_v (ci rfl (noDict hz _)) (ci rfl rfl) ((fBool_ne _ _ _).trans ?_))) (fun _ => mTst_b (mBin_v (ci rfl (noDict hz _)) (ci rfl rfl) ((fBool_ne _ _ _).trans ?_)))).trans rfl) rfl (mRet_w rfl)))
        · rw [e]; rfl
        · rw [e2]; rfl
      cases x with
      | tuple m =>
        obtain ⟨b, e, hb⟩ := same_node (gR__law_same (k + 1)) (seqd_tup (xs := m) (S := S)) (seqd_tup (xs := l) (S := S)) h1 fun i a c ha hc => ih c a (h2 c (List.mem_of_getElem? hc)) (shp_mem_tup hy c (List.mem_of_getElem? hc)) (shp_mem_tup hx a (List.mem_of_getElem? ha))
        exact ⟨b, e, by rw [hb]; simp⟩
      | list m =>
        obtain ⟨b, e, hb⟩ := same_node (gR__law_same (k + 1)) (seqd_list (xs := m) (S := S)) (seqd_tup (xs := l) (S := S)) h1 fun i a c ha hc => ih c a (h2 c (List.mem_of_getElem? hc)) (shp_mem_tup hy c (List.mem_of_getElem? hc)) (shp_mem_list hx a (List.mem_of_getElem? ha))
        exact ⟨b, e, by rw [hb]; simp⟩
      | dict d => have := hx.1; rw [PyData.canLay0] at this; cases this
      | _ => exact ⟨false, noseq _ hx rfl rfl, by simp⟩
theorem v_same {x y : PyData} (hn : Nest 10 y) (hy : shp 60 y) (hx : shp 60 x) : ∃ b, g__law_same [.d x, .d y] S = some (.d (.bool b), S) ∧ (b = true ↔ x = y) := v_sameR 11 y x (hn.mono (by omega)) hy hx
theorem v_same_refl {y : PyData} (hn : Nest 10 y) (hy : shp 60 y) : g__law_same [.d y, .d y] S = some (.d (.bool true), S) := by
  obtain ⟨b, e, hb⟩ := v_same (S := S) hn hy hy
  rw [hb.mpr rfl] at e
  exact e
/-- lists, one of them perhaps of the store -/
theorem v_same_seq {w1 w2 : Wv} {t : Bool} {xs ys : List PyData} (h1 : Seqd w1 t xs S) (h2 : Seqd w2 t ys S) (hlen : ys.length < 1000000) (hy : ∀ y ∈ ys, Nest 10 y ∧ shp 60 y) (hx : ∀ x ∈ xs, shp 60 x) : ∃ b, g__law_same [w1, w2] S = some (.d (.bool b), S) ∧ (b = true ↔ xs = ys) := by
  obtain ⟨b, e, hb⟩ := same_node (gR__law_same 11) h1 h2 hlen fun i a c ha hc => v_sameR 10 c a (hy c (List.mem_of_getElem? hc)).1 (hy c (List.mem_of_getElem? hc)).2 (hx a (List.mem_of_getElem? ha))
  exact ⟨b, e, by rw [hb]; simp⟩
end
end K15
set_option Elab.async false
set_option linter.all false
set_option maxRecDepth 100000
set_option maxHeartbeats 4000000
set_option autoImplicit false
namespace K15
open PySem PySem.Spec PyProof.Rows L2
structure Tin where
  a : Int
  b : Int
  c : Int
def tl (t : Tin) : List Wv := [.d (.int t.a), .d (.int t.b), .d (.int t.c)]
structure TOk (k : Nat) (t : Tin) : Prop where
  a0 : 0 ≤ t.a
  b0 : 0 ≤ t.b
  b1 : t.b < 4611686018427387904
  c0 : 0 ≤ t.c
  ck : t.c ≤ k
theorem TOk.mono {k j : Nat} {t : Tin} (h : TOk k t) (l : k ≤ j) : TOk j t := ⟨h.a0, h.b0, h.b1, h.c0, by have := h.ck; omega⟩
theorem ok_tl (n : Nat) (t : Tin) : (tl t).all (okR n) = true := rfl
theorem OkS.tin {S : Sto} {n : Nat} {t : Tin} (h : OkS S) : OkS (S.set n (tl t)) := h.set (ok_tl _ t)
section
variable {S S1 : Sto} {δ δ' : DEnv} {F : Fm} {P : Pic} {w : Wv}
theorem mulC (i j : Int) (h : -(18446744073709551616) < i ∧ i < 18446744073709551616 ∨ -(18446744073709551616) < j ∧ j < 18446744073709551616) : fMulA (.d (.int i)) (.d (.int j)) S = some (.d (.int (i * j)), S) := fMulA_v i j (by
  have e : (2 : Int) ^ 64 = 18446744073709551616 := by decide +kernel
  rw [e]
  exact h)
theorem fDivI_v (n : Int) {c : Int} (hc : 0 < c) (h2 : c < 1000000000) : fDiv (.d (.int n)) (.d (.int c)) S = some (.d (.int (n / c)), S) := by
  show (if (c : Int) ≠ 0 ∧ (c : Int).natAbs < 1073741824 then some (Wv.d (.int (n.fdiv c)), S) else none) = _
  rw [if_pos (by omega), Int.fdiv_eq_ediv_of_nonneg _ (by omega)]
theorem v_take {n k : Nat} {t : Tin} {r : Int} (hn : S[n]? = some (tl t)) (ht : TOk k t) (hk : k < 1000000000) (h1 : 1 ≤ r) (h2 : r < 1000) :
    ∃ v t', g__law_take [.ref n, .d (.int r)] S = some (.d (.int v), S.set n (tl t')) ∧ TOk (k + 1) t' ∧ 0 ≤ v ∧ v < r := by
  obtain ⟨a, b, c⟩ := t
  obtain ⟨a0, b0, b1, c0, ck⟩ := ht
  dsimp only at a0 b0 b1 c0 ck
  have ln := get_lt hn
  have c1 : mTst (mBin fGt (mBin fIx (mVar 0) (mC (.int 0))) (mC (.int 0))) [some (.ref n), some (.d (.int r)), none, none, none, none] S = some (decide (0 < a), S) := mTst_b (mBin_v (mBin_v rfl rfl (fIx_ref hn (k := 0) rfl rfl)) rfl rfl)
  by_cases q : 0 < a
  · refine ⟨a % r, ⟨a / r, b, c⟩, ?_, ⟨Int.ediv_nonneg a0 (by omega), b0, b1, c0, by dsimp only; omega⟩, Int.emod_nonneg _ (by omega), Int.emod_lt_of_pos _ (by omega)⟩
    refine sem_rt (mIfS_seq_rt (c1.trans (by rw [decide_eq_true q])) ?_)
    refine seq (mSet_v (mBin_v (cl (mCons_v (mBin_v rfl rfl (fIx_ref hn (k := 0) rfl rfl)) rfl) rfl) rfl (fModI_v a (by omega)))) ?_
    refine seq (asgG_v (mBin_v (mBin_v rfl rfl (fIx_ref hn (k := 0) rfl rfl)) rfl (fDivI_v a (c := r) (by omega) (by omega))) (gSub_v rfl rfl hn (by omega) (by unfold tl; simp))) (mRet_w rfl)
  · have hn1 : (S.set n (tl ⟨a, b, c + 1⟩))[n]? = some (tl ⟨a, b, c + 1⟩) := List.getElem?_set_self ln
    generalize hS1 : S.set n (tl ⟨a, b, c + 1⟩) = S1 at hn1
    have g0 : ∀ δ, mBin fIx (mVar 0) (mC (.int 0)) (some (.ref n) :: δ) S1 = some (.d (.int a), S1) := fun δ => mBin_v rfl rfl (fIx_ref hn1 (k := 0) rfl rfl)
    have g1 : ∀ δ, mBin fIx (mVar 0) (mC (.int 1)) (some (.ref n) :: δ) S1 = some (.d (.int b), S1) := fun δ => mBin_v rfl rfl (fIx_ref hn1 (k := 1) rfl rfl)
    have g2 : ∀ δ, mBin fIx (mVar 0) (mC (.int 2)) (some (.ref n) :: δ) S1 = some (.d (.int (c + 1)), S1) := fun δ => mBin_v rfl rfl (fIx_ref hn1 (k := 2) rfl rfl)
    have key : ∀ once wide twice : Int, once = (b + 48271 * (c + 1)) * (39373 + (c + 1)) % 2147483647 → wide = once % 40009 + 7 → twice = (once + (c + 1) + b / 1000003) * wide % 2147483629 →
        g__law_take [.ref n, .d (.int r)] S = some (.d (.int ((twice * 48271 + once) % 2147483587 / 64 % r)), S1) := fun once wide twice e1 e2 e3 => by
      have o0 : 0 ≤ once := by rw [e1]; exact Int.emod_nonneg _ (by omega)
      have o1 : once < 2147483647 := by rw [e1]; exact Int.emod_lt_of_pos _ (by omega)
      have w0 : 7 ≤ wide ∧ wide < 50000 := by omega
      have t0 : 0 ≤ twice := by rw [e3]; exact Int.emod_nonneg _ (by omega)
      have t1 : twice < 2147483629 := by rw [e3]; exact Int.emod_lt_of_pos _ (by omega)
      refine sem_rt ((guard_f (c1.trans (by rw [decide_eq_false q])) rfl).trans ?_)
      refine seq (asgG_v (mBin_v (mBin_v rfl rfl (fIx_ref hn (k := 2) rfl rfl)) rfl rfl) (gSub_v rfl rfl hn (by omega) (by unfold tl; simp))) ?_
      show mSeq _ _ _ (S.set n (tl ⟨a, b, c + 1⟩)) = _
      rw [hS1]
      refine seq (mSet_v (w := .d (.int once)) (S' := S1) ?_) ?_
      · refine mBin_v (cl (mCons_v (mBin_v (mBin_v (g1 _) (mBin_v rfl (g2 _) (mulC 48271 (c + 1) (.inl (by omega)))) rfl) (mBin_v rfl (g2 _) rfl) (mulC _ _ (.inr (by omega)))) rfl) rfl) rfl ((fModI_v _ (by omega)).trans ?_)
        rw [e1]
      refine seq (mSet_v (w := .d (.int wide)) (S' := S1) ?_) ?_
      · refine mBin_v (w1 := .d (.int (once % 40009))) (mBin_v (cl rfl rfl) rfl (fModI_v once (by omega))) rfl ?_
        rw [e2]
        rfl
      refine seq (mSet_v (w := .d (.int twice)) (S' := S1) ?_) ?_
      · refine mBin_v (cl (mCons_v (mBin_v (mBin_v (mBin_v rfl (g2 _) rfl) (mBin_v (g1 _) rfl (fDivI_v b (by omega) (by omega))) rfl) rfl (mulC _ _ (.inr (by omega)))) rfl) rfl) rfl ((fModI_v _ (by omega)).trans ?_)
        rw [e3]
      refine mRet_w (mBin_v (w1 := .d (.int ((twice * 48271 + once) % 2147483587 / 64))) (cl (mCons_v (mBin_v (mBin_v (cl (mCons_v (mBin_v (mBin_v rfl rfl (mulC twice 48271 (.inr (by omega)))) rfl rfl) rfl) rfl) rfl (fModI_v _ (by omega))) rfl (fDivI_v _ (by omega) (by omega))) rfl) rfl) rfl (fModI_v _ (by omega)))
    refine ⟨_, ⟨a, b, c + 1⟩, (key _ _ _ rfl rfl rfl).trans (by rw [hS1]), ⟨a0, b0, b1, by dsimp only; omega, by dsimp only; omega⟩, Int.emod_nonneg _ (by omega), Int.emod_lt_of_pos _ (by omega)⟩
theorem v_of {n k : Nat} {t : Tin} {ds : List PyData} (hn : S[n]? = some (tl t)) (ht : TOk k t) (hk : k < 1000000000) (h1 : ds ≠ []) (h2 : ds.length < 1000) :
    ∃ x t', g__law_of [.ref n, .d (.list ds)] S = some (.d x, S.set n (tl t')) ∧ TOk (k + 1) t' ∧ x ∈ ds := by
  have hpos : 0 < ds.length := List.length_pos_iff.mpr h1
  obtain ⟨v, t', e, ok, v0, v1⟩ := v_take (r := (ds.length : Nat)) hn ht hk (by omega) (by omega)
  have hv : v.toNat < ds.length := by omega
  refine ⟨ds[v.toNat], t', sem_rt (mRet_w (mBin_v rfl (cl (mCons_v rfl (mCons_v (cl rfl (cLen_list ds)) rfl)) e) (fIx_list (k := v.toNat) (by omega) (List.getElem?_eq_getElem hv)))), ok, List.getElem_mem hv⟩
theorem v_note {n k : Nat} {t : Tin} (hn : S[n]? = some (tl t)) (ht : TOk k t) (hk : k < 1000000000) : ∃ x t', g__law_note [.ref n] S = some (.d (eN x), S.set n (tl t')) ∧ TOk (k + 1) t' := by
  obtain ⟨x, t', e, ok, hx⟩ := v_of (ds := [eN .n0, eN .n1, eN .n2, eN .n3, eN .n4]) hn ht hk (by simp) (by simp)
  have : ∃ y, x = eN y := by
    simp only [List.mem_cons, List.not_mem_nil, or_false] at hx
    rcases hx with rfl | rfl | rfl | rfl | rfl <;> exact ⟨_, rfl⟩
  obtain ⟨y, rfl⟩ := this
  exact ⟨y, t', sem_rt (mRet_w (cl rfl e)), ok⟩
theorem v_fates {n k : Nat} {t : Tin} {m : Nat} (hn : S[n]? = some (tl t)) (ht : TOk k t) (hk : k + m < 1000000000) (hm : m < 1000) : ∃ fs t', g__law_fates [.ref n, .d (.int (m : Nat))] S = some (.d (eTs fs), S.set n (tl t')) ∧ TOk (k + m) t' ∧ fs.length = m := by
  have ln := get_lt hn
  obtain ⟨acc, S', e1, t', fs, rfl, rfl, ok, hl⟩ := comp_inv (n := nName 2) (t := mtYes) (e := mCall g__law_of (mCons (mVar 0) (mCons (mImm (mLst (mCons (mC (.str "old")) (mCons (mC (.str "new")) (mCons (mC (.str "torn")) mNil))))) mNil))) (vs := [2])
    (mi := mRange1 (mVar 1)) (δ := [some (.ref n), some (.d (.int (m : Nat))), none]) (S := S) (J := fun _ => True) (rng 0 (m : Nat)) (fun i => .d (.int i)) (fun p acc S' => ∃ t' fs, acc = (fs.map eT).map .d ∧ S' = S.set n (tl t') ∧ TOk (k + p.length) t' ∧ fs.length = p.length)
    (src_range1 rfl ⟨by omega, by omega⟩) (fun _ _ _ _ => trivial) (by rw [rng_length]; omega) (by
      rintro p x r acc S1 hx ⟨t1, fs, rfl, rfl, ok1, hl1⟩
      have hpl : p.length < (rng 0 (m : Nat)).length := by rw [hx]; simp
      rw [rng_length] at hpl
      obtain ⟨y, t2, e, ok2, hy⟩ := v_of (S := S.set n (tl t1)) (ds := [.str "old", .str "new", .str "torn"]) (List.getElem?_set_self ln) ok1 (by omega) (by simp) (by simp)
      rw [List.set_set] at e
      have : ∃ f, y = eT f := by
        simp only [List.mem_cons, List.not_mem_nil, or_false] at hy
        rcases hy with rfl | rfl | rfl
        · exact ⟨.old, rfl⟩
        · exact ⟨.new, rfl⟩
        · exact ⟨.torn, rfl⟩
      obtain ⟨f, rfl⟩ := this
      exact ⟨_, rfl, .inr ⟨_, _, _, rfl, cl rfl e, t2, fs ++ [f], by simp, rfl, by rw [List.length_append]; exact ok2, by simp [hl1]⟩⟩) ⟨t, [], rfl, (set_self hn).symm, ht, rfl⟩
  rw [rng_length] at ok hl
  refine ⟨fs, t', sem_rt (mRet_w (cl (mCons_v (mImm_v e1) rfl) (cTuple_list _))), ok.mono (by omega), by omega⟩
theorem v_any_form {n k : Nat} {t : Tin} (hn : S[n]? = some (tl t)) (ht : TOk k t) (hk : k + 3 < 1000000000) : ∃ F t', g__law_any_form [.ref n, .d (.int 5)] S = some (.d (eF F), S.set n (tl t')) ∧ TOk (k + 3) t' ∧ F.Ok := by
  have ln := get_lt hn
  obtain ⟨v1, t1, e1, ok1, p1, q1⟩ := v_take (r := 4) hn ht (by omega) (by omega) (by omega)
  obtain ⟨v2, t2, e2, ok2, p2, q2⟩ := v_take (S := S.set n (tl t1)) (r := 2 + v1 - 1) (List.getElem?_set_self ln) ok1 (by omega) (by omega) (by omega)
  rw [List.set_set] at e2
  obtain ⟨x, t3, e3, ok3, hx⟩ := v_of (S := S.set n (tl t2)) (ds := [.int 2, .int 3, .int 2, .int 1, .int 3, .int 4]) (List.getElem?_set_self ln) ok2 (by omega) (by simp) (by simp)
  rw [List.set_set] at e3
  have : ∃ m : Nat, x = .int m ∧ 1 ≤ m ∧ m ≤ 4 := by
    simp only [List.mem_cons, List.not_mem_nil, or_false] at hx
    rcases hx with rfl | rfl | rfl | rfl | rfl | rfl
    · exact ⟨2, rfl, by omega, by omega⟩
    · exact ⟨3, rfl, by omega, by omega⟩
    · exact ⟨2, rfl, by omega, by omega⟩
    · exact ⟨1, rfl, by omega, by omega⟩
    · exact ⟨3, rfl, by omega, by omega⟩
    · exact ⟨4, rfl, by omega, by omega⟩
  obtain ⟨m, rfl, m1, m4⟩ := this
  refine ⟨⟨(2 + v1).toNat, (1 + v2).toNat, m⟩, t3, ?_, ok3, ⟨by dsimp only; omega, by dsimp only; omega, by dsimp only; omega, by dsimp only; omega, m1, m4⟩⟩
  have eF' : eF ⟨(2 + v1).toNat, (1 + v2).toNat, m⟩ = .tuple [.int (2 + v1), .int (1 + v2), .int m] := by
    show PyData.tuple [.int (((2 + v1).toNat : Nat) : Int), .int (((1 + v2).toNat : Nat) : Int), .int m] = _
    rw [show (((2 + v1).toNat : Nat) : Int) = 2 + v1 by omega, show (((1 + v2).toNat : Nat) : Int) = 1 + v2 by omega]
  rw [eF']
  exact sem_rt (seq (mSet_v (mBin_v rfl (cl rfl e1) rfl)) (mRet_w (mTup_3 rfl (mBin_v rfl (cl rfl e2) rfl) (cl rfl e3))))
end
end K15
set_option Elab.async false
set_option linter.all false
set_option maxRecDepth 100000
set_option maxHeartbeats 4000000
set_option autoImplicit false
namespace K15
open PySem PySem.Spec PyProof.Rows L2
theorem set_app {S : Sto} {n : Nat} {u x : List Wv} (h : n < S.length) : (S ++ [x]).set n u = S.set n u ++ [x] := List.set_append_left n u h
theorem PicOk.putc {F : Fm} {P : Pic} (h : PicOk F P) (k : Int) (x : Cell) (hx : ∀ y, x = some y → 0 ≤ y.1 ∧ y.1 < F.m) : PicOk F (put P k x) := by
  refine ⟨by unfold put; simp; exact h.len, fun z hz y hy => ?_⟩
  unfold put at hz
  rcases List.mem_or_eq_of_mem_set hz with hz | rfl
  · exact h.lap z hz y hy
  · exact hx y hy
theorem mark_bd {F : Fm} (h : F.Ok) (n : Int) : 0 ≤ mark F n ∧ mark F n < F.m := by
  have := h.m1
  unfold mark
  exact ⟨Int.emod_nonneg _ (by omega), Int.emod_lt_of_pos _ (by omega)⟩
section
variable {S S1 : Sto} {δ δ' : DEnv} {F : Fm} {P : Pic} {w : Wv}
theorem mtOr_f {a b : MT} (h : a δ S = some (false, S1)) : mtOr a b δ S = b δ S1 := by unfold mtOr; rw [h]; rfl
theorem mtAnd_t {a b : MT} (h : a δ S = some (true, S1)) : mtAnd a b δ S = b δ S1 := by unfold mtAnd; rw [h]; rfl
theorem fRep_torn (k : Nat) (hk : k < 1000) : fRep (.d (.list [torn])) (.d (.int (k : Nat))) S = some (cw (List.replicate k none), S) := by
  unfold fRep
  dsimp only
  rw [show rdM S (.d (.list [torn])) = some [.d torn] from rfl, Option.bind_some, if_pos]
  · rw [Int.toNat_natCast]
    have : (List.replicate k [Wv.d torn]).flatten = cw (List.replicate k none) := by
      unfold cw
      rw [List.map_replicate]
      induction k with
      | zero => rfl
      | succ k ih =>
        rw [List.replicate_succ, List.flatten_cons, ih (by omega), List.replicate_succ]
        rfl
    rw [this]
  · refine ⟨by omega, by omega, ?_⟩
    rw [Int.toNat_natCast, List.length_singleton]
    omega
theorem v_any_face {n k : Nat} {t : Tin} (ok : OkS S) (h : F.Ok) (hn : S[n]? = some (tl t)) (ht : TOk k t) (hk : k + 100 < 1000000000) : ∃ P t', g__law_any_face [.ref n, .d (eF F)] S = some (.d (eP P), S.set n (tl t')) ∧ TOk (k + 100) t' ∧ PicOk F P := by
  have ln := get_lt hn
  have h6 := h.c6
  have hdc := h.dc
  have htt := h.tle
  obtain ⟨first, t0, e0, ok0, f0, f1⟩ := v_take (r := F.t) hn ht (by omega) (by omega) (by omega)
  have rep0 : PicOk F (List.replicate F.c none) := ⟨by simp, fun x hx y hy => by
    rw [(List.mem_replicate.mp hx).2] at hy
    cases hy⟩
  obtain ⟨δ2, S2, e2, x, y, z, u, P, t', rfl, rfl, hP, ok'⟩ := for_inv (n := nName 5)
    (b := mSeq (mSet 6 (mCall g__law_take (mCons (mVar 0) (mCons (mC (.int 8)) mNil)))) (mSeq (mSet 7 (mIf (mtOr (mTst (mBin fLt (mVar 5) (mVar 2))) (mTst (mBin fLt (mVar 6) (mC (.int 4))))) (mVar 5) (mBin fSub (mVar 5) (mBin fIx (mVar 1) (mC (.int 0)))))) (mSeq (mSet 8 (mTup (mCons (mCall g__law_lap (mCons (mVar 1) (mCons (mVar 7) mNil))) (mCons (mCall g__law_note (mCons (mVar 0) mNil)) mNil)))) (mSeq (mIfS (mTst (mBin fEq (mVar 6) (mC (.int 7)))) (mSet 8 (mIf (mTst (mBin fEq (mCall g__law_take (mCons (mVar 0) (mCons (mC (.int 2)) mNil))) (mC (.int 0)))) (mTup (mCons (mCall g__law_take (mCons (mVar 0) (mCons (mBin fIx (mVar 1) (mC (.int 2))) mNil))) (mCons (mCall g__law_note (mCons (mVar 0) mNil)) mNil))) (mVar 8))) mNext) (mIfS (mtOr (mTst (mBin fNe (mVar 6) (mC (.int 6)))) (mtAnd (mTst (mBin fLt (mVar 5) (mVar 2))) (mTst (mBin fGt (mCall g__law_take (mCons (mVar 0) (mCons (mC (.int 3)) mNil))) (mC (.int 0)))))) (mAsgG (gSubD (mVar 4) (mBin fMod (mCall cInt (mCons (mVar 5) mNil)) (mBin fIx (mVar 1) (mC (.int 0))))) (mVar 8)) mNext)))))
    (mi := mRange2 (mBin fSub (mVar 2) (mVar 3)) (mBin fAdd (mVar 2) (mBin fIx (mVar 1) (mC (.int 1))))) (δ := [some (.ref n), some (.d (eF F)), some (.d (.int first)), some (.d (.int ((F.c : Int) - F.d))), some (.ref S.length), none, none, none, none]) (S := S.set n (tl t0) ++ [cw (List.replicate F.c none)])
    (rng (first - ((F.c : Int) - F.d)) (first + F.d)) (fun i => .d (.int i)) (fun p δ' S' => ∃ x y z u P t', δ' = [some (.ref n), some (.d (eF F)), some (.d (.int first)), some (.d (.int ((F.c : Int) - F.d))), some (.ref S.length), x, y, z, u] ∧ S' = S.set n (tl t') ++ [cw P] ∧ PicOk F P ∧ TOk (k + 1 + 6 * p.length) t') (J := fun _ => True)
    (src_range2 rfl rfl ⟨by omega, by omega, by omega, by omega⟩) (fun _ _ _ _ => trivial) (by
      rintro p i r δ1 S1 hx ⟨x, y, z, u, P, t1, rfl, rfl, hP, ok1⟩
      have hpl : p.length < (rng (first - ((F.c : Int) - F.d)) (first + F.d)).length := by rw [hx]; simp
      rw [rng_length] at hpl
      have gt : ∀ (t : Tin) (P : Pic), (S.set n (tl t) ++ [cw P])[n]? = some (tl t) := fun t P => by rw [List.getElem?_append_left (by simp; omega), List.getElem?_set_self ln]
      have st : ∀ (t t' : Tin) (P : Pic), (S.set n (tl t) ++ [cw P]).set n (tl t') = S.set n (tl t') ++ [cw P] := fun t t' P => by rw [set_app (by simp; omega), List.set_set]
      obtain ⟨kind, t2, e2, ok2, k0, k1⟩ := v_take (S := S.set n (tl t1) ++ [cw P]) (r := 8) (gt _ _) ok1 (by omega) (by omega) (by omega)
      rw [st] at e2
      -- its
      obtain ⟨its, eits⟩ : ∃ its : Int, ∀ S', mIf (mtOr (mTst (mBin fLt (mVar 5) (mVar 2))) (mTst (mBin fLt (mVar 6) (mC (.int 4))))) (mVar 5) (mBin fSub (mVar 5) (mBin fIx (mVar 1) (mC (.int 0)))) [some (.ref n), some (.d (eF F)), some (.d (.int first)), some (.d (.int ((F.c : Int) - F.d))), some (.ref S.length), some (.d (.int i)), some (.d (.int kind)), z, u] S' = some (.d (.int its), S') := by
        by_cases q : (decide (i < first) || decide (kind < 4)) = true
        · exact ⟨i, fun S' => (mIf_t ((mtOr_b (p := decide (i < first)) (q := decide (kind < 4)) (mTst_b rfl) fun _ => mTst_b rfl).trans (by rw [q]))).trans rfl⟩
        · exact ⟨i - F.c, fun S' => (mIf_f ((mtOr_b (p := decide (i < first)) (q := decide (kind < 4)) (mTst_b rfl) fun _ => mTst_b rfl).trans (by rw [Bool.eq_false_iff.mpr q]))).trans rfl⟩
      obtain ⟨nt, t3, e3, ok3⟩ := v_note (S := S.set n (tl t2) ++ [cw P]) (gt _ _) ok2 (by omega)
      rw [st] at e3
      -- own, kind 7
      obtain ⟨own, t4, e4, ok4, hown⟩ : ∃ (own : CellC) (t4 : Tin), mIfS (mTst (mBin fEq (mVar 6) (mC (.int 7)))) (mSet 8 (mIf (mTst (mBin fEq (mCall g__law_take (mCons (mVar 0) (mCons (mC (.int 2)) mNil))) (mC (.int 0)))) (mTup (mCons (mCall g__law_take (mCons (mVar 0) (mCons (mBin fIx (mVar 1) (mC (.int 2))) mNil))) (mCons (mCall g__law_note (mCons (mVar 0) mNil)) mNil))) (mVar 8))) mNext
          [some (.ref n), some (.d (eF F)), some (.d (.int first)), some (.d (.int ((F.c : Int) - F.d))), some (.ref S.length), some (.d (.int i)), some (.d (.int kind)), some (.d (.int its)), some (.d (eCC (mark F its, nt)))] (S.set n (tl t3) ++ [cw P]) =
          some (Fl.nx [some (.ref n), some (.d (eF F)), some (.d (.int first)), some (.d (.int ((F.c : Int) - F.d))), some (.ref S.length), some (.d (.int i)), some (.d (.int kind)), some (.d (.int its)), some (.d (eCC own))], S.set n (tl t4) ++ [cw P]) ∧ TOk (k + 1 + 6 * p.length + 2 + 3) t4 ∧ 0 ≤ own.1 ∧ own.1 < F.m := by
        by_cases q : kind = 7
        · obtain ⟨v, t5, e5, ok5, v0, v1⟩ := v_take (S := S.set n (tl t3) ++ [cw P]) (r := 2) (gt _ _) ok3 (by omega) (by omega) (by omega)
          rw [st] at e5
          by_cases q2 : v = 0
          · obtain ⟨l, t6, e6, ok6, l0, l1⟩ := v_take (S := S.set n (tl t5) ++ [cw P]) (r := (F.m : Nat)) (gt _ _) ok5 (by omega) (by have := h.m1; omega) (by have := h.m4; omega)
            rw [st] at e6
            obtain ⟨nt2, t7, e7, ok7⟩ := v_note (S := S.set n (tl t6) ++ [cw P]) (gt _ _) ok6 (by omega)
            rw [st] at e7
            refine ⟨(l, nt2), t7, (mIfS_t (S' := S.set n (tl t3) ++ [cw P]) (mTst_b ((mBin_v rfl rfl (fEq_int _ _)).trans (by rw [decide_eq_true q])))).trans (mSet_v ((mIf_t (S1 := S.set n (tl t5) ++ [cw P]) (mTst_b ((mBin_v (cl rfl e5) rfl (fEq_int _ _)).trans (by rw [decide_eq_true q2])))).trans (mTup_2 (cl rfl e6) (cl rfl e7)))), ok7, l0, l1⟩
          · refine ⟨(mark F its, nt), t5, (mIfS_t (S' := S.set n (tl t3) ++ [cw P]) (mTst_b ((mBin_v rfl rfl (fEq_int _ _)).trans (by rw [decide_eq_true q])))).trans (mSet_v ((mIf_f (S1 := S.set n (tl t5) ++ [cw P]) (mTst_b ((mBin_v (cl rfl e5) rfl (fEq_int _ _)).trans (by rw [decide_eq_false q2])))).trans rfl)), ok5.mono (by omega), mark_bd h its⟩
        · exact ⟨(mark F its, nt), t3, (mIfS_f (S' := S.set n (tl t3) ++ [cw P]) (mTst_b ((mBin_v rfl rfl (fEq_int _ _)).trans (by rw [decide_eq_false q])))).trans rfl, ok3.mono (by omega), mark_bd h its⟩
      -- the store
      obtain ⟨t5, P', e5, ok5, hP'⟩ : ∃ (t5 : Tin) (P' : Pic), mIfS (mtOr (mTst (mBin fNe (mVar 6) (mC (.int 6)))) (mtAnd (mTst (mBin fLt (mVar 5) (mVar 2))) (mTst (mBin fGt (mCall g__law_take (mCons (mVar 0) (mCons (mC (.int 3)) mNil))) (mC (.int 0)))))) (mAsgG (gSubD (mVar 4) (mBin fMod (mCall cInt (mCons (mVar 5) mNil)) (mBin fIx (mVar 1) (mC (.int 0))))) (mVar 8)) mNext
          [some (.ref n), some (.d (eF F)), some (.d (.int first)), some (.d (.int ((F.c : Int) - F.d))), some (.ref S.length), some (.d (.int i)), some (.d (.int kind)), some (.d (.int its)), some (.d (eCC own))] (S.set n (tl t4) ++ [cw P]) =
          some (Fl.nx [some (.ref n), some (.d (eF F)), some (.d (.int first)), some (.d (.int ((F.c : Int) - F.d))), some (.ref S.length), some (.d (.int i)), some (.d (.int kind)), some (.d (.int its)), some (.d (eCC own))], S.set n (tl t5) ++ [cw P']) ∧ TOk (k + 1 + 6 * p.length + 6) t5 ∧ PicOk F P' := by
        have sto : ∀ t : Tin, mAsgG (gSubD (mVar 4) (mBin fMod (mCall cInt (mCons (mVar 5) mNil)) (mBin fIx (mVar 1) (mC (.int 0))))) (mVar 8)
            [some (.ref n), some (.d (eF F)), some (.d (.int first)), some (.d (.int ((F.c : Int) - F.d))), some (.ref S.length), some (.d (.int i)), some (.d (.int kind)), some (.d (.int its)), some (.d (eCC own))] (S.set n (tl t) ++ [cw P]) =
            some (Fl.nx [some (.ref n), some (.d (eF F)), some (.d (.int first)), some (.d (.int ((F.c : Int) - F.d))), some (.ref S.length), some (.d (.int i)), some (.d (.int kind)), some (.d (.int its)), some (.d (eCC own))], S.set n (tl t) ++ [cw (put P (i % F.c) (some own))]) := fun t => by
          have e : S.length = (S.set n (tl t)).length := by simp
          have hi0 : 0 ≤ i % (F.c : Int) := Int.emod_nonneg _ (by omega)
          have hi1 : i % (F.c : Int) < F.c := Int.emod_lt_of_pos _ (by omega)
          refine asgG_v rfl ((gSub_v rfl (mBin_v (cl rfl rfl) rfl (fMod_v i (c := F.c) (by omega))) (by rw [e]; exact get_last) hi0 (by rw [cw_length, hP.len]; exact hi1)).trans ?_)
          have e2 : (S.set n (tl t) ++ [cw P]).set S.length ((cw P).set (i % (F.c : Int)).toNat (.d (eC (some own)))) = S.set n (tl t) ++ [cw (put P (i % F.c) (some own))] := by
            rw [cw_set]
            have := set_last (S := S.set n (tl t)) (l := cw P) (l' := cw (put P (i % F.c) (some own)))
            rw [← e] at this
            exact this
          exact congrArg (fun z => some (_, z)) e2
        have hpo : PicOk F (put P (i % F.c) (some own)) := hP.putc _ _ fun y hy => by cases hy; exact hown
        by_cases q : kind = 6
        · by_cases q2 : i < first
          · obtain ⟨v, t5, e5, ok5, v0, v1⟩ := v_take (S := S.set n (tl t4) ++ [cw P]) (r := 3) (gt _ _) ok4 (by omega) (by omega) (by omega)
            rw [st] at e5
            have c : mtOr (mTst (mBin fNe (mVar 6) (mC (.int 6)))) (mtAnd (mTst (mBin fLt (mVar 5) (mVar 2))) (mTst (mBin fGt (mCall g__law_take (mCons (mVar 0) (mCons (mC (.int 3)) mNil))) (mC (.int 0))))) [some (.ref n), some (.d (eF F)), some (.d (.int first)), some (.d (.int ((F.c : Int) - F.d))), some (.ref S.length), some (.d (.int i)), some (.d (.int kind)), some (.d (.int its)), some (.d (eCC own))] (S.set n (tl t4) ++ [cw P]) = some (decide (0 < v), S.set n (tl t5) ++ [cw P]) := by
              refine (mtOr_f (S1 := S.set n (tl t4) ++ [cw P]) (mTst_b ((mBin_v rfl rfl (fNe_int _ _)).trans (by rw [decide_eq_true q]; rfl)))).trans ((mtAnd_t (S1 := S.set n (tl t4) ++ [cw P]) (mTst_b ((mBin_v rfl rfl rfl).trans ?_))).trans ?_)
              · show some (Wv.d (.bool (decide (i < first))), _) = _
                rw [decide_eq_true q2]
              exact mTst_b (mBin_v (cl rfl e5) rfl rfl)
            by_cases q3 : 0 < v
            · exact ⟨t5, _, (mIfS_t (c.trans (by rw [decide_eq_true q3]))).trans (sto t5), ok5.mono (by omega), hpo⟩
            · exact ⟨t5, P, (mIfS_f (c.trans (by rw [decide_eq_false q3]))).trans rfl, ok5.mono (by omega), hP⟩
          · refine ⟨t4, P, (mIfS_f (S' := S.set n (tl t4) ++ [cw P]) ((mtOr_b (p := false) (q := false) (mTst_b ((mBin_v rfl rfl (fNe_int _ _)).trans (by rw [decide_eq_true q]; rfl))) fun _ => (mtAnd_b (p := false) (q := false) (mTst_b ((mBin_v rfl rfl rfl).trans ?_)) (fun z => by cases z)).trans rfl).trans rfl)).trans rfl, ok4.mono (by omega), hP⟩
            show some (Wv.d (.bool (decide (i < first))), _) = _
            rw [decide_eq_false q2]
        · exact ⟨t4, _, (mIfS_t (S' := S.set n (tl t4) ++ [cw P]) ((mtOr_b (p := true) (q := true) (mTst_b ((mBin_v rfl rfl (fNe_int _ _)).trans (by rw [decide_eq_false q]; rfl))) (fun z => by cases z)).trans rfl)).trans (sto t4), ok4.mono (by omega), hpo⟩
      refine ⟨_, _, _, rfl, seq (mSet_v (cl rfl e2)) (seq (mSet_v (eits _)) (seq (mSet_v (mTup_2 (cl rfl (v_lap h its)) (cl rfl e3))) (seq e4 e5))), some (.d (.int i)), some (.d (.int kind)), some (.d (.int its)), some (.d (eCC own)), P', t5, rfl, rfl, hP', ?_⟩
      rw [List.length_append, List.length_singleton]
      exact ok5.mono (by omega)) ⟨none, none, none, none, _, t0, rfl, rfl, rep0, ok0⟩
  rw [rng_length] at ok'
  refine ⟨P, t', trim_d (S1 := S.set n (tl t')) (T := [cw P]) ?_ (by simp) ok.tin, ok'.mono (by omega), hP⟩
  refine sem_rt (seq (mPar_v (mCons_v (cl (mCons_v rfl (mCons_v (turn_v h rfl rfl) rfl)) e0) (mCons_v rfl rfl))) (seq (mSet_v (mMut_v (mBinF_v rfl rfl (fRep_torn F.c (by omega))))) ?_))
  have e : (S.set n (tl t0)).length = S.length := by simp
  rw [e]
  refine seq e2 (mRet_w (cl rfl (cTuple_ref ?_)))
  rw [← cw_eq]
  have e3 : S.length = (S.set n (tl t')).length := by simp
  rw [e3]
  exact get_last
end
end K15
set_option Elab.async false
set_option linter.all false
set_option maxRecDepth 100000
set_option maxHeartbeats 4000000
set_option autoImplicit false
namespace K15
open PySem PySem.Spec PyProof.Rows L2
def barsGU (F : Fm) (P : Pic) (s : Int) : List Int := (rng (s - F.c + F.d) (s + F.d)).filterMap fun n => if (shows F P n || (decide (s ≤ n) && (decide (cellAt F P n = none) || shows F P (n - F.c)))) = true then none else some (n % F.c)
def barsG (F : Fm) (P : Pic) (s : Int) : List Int := isort (barsGU F P s)
def isReasonG (F : Fm) (P : Pic) (ws : List Int) : Bool := decide ((ws.length : Int) = F.t) && (rng 0 (ws.length : Nat)).all fun n => decide ((ws[n.toNat]?).getD 0 ∈ barsG F P n)
def begunG (F : Fm) : Gr := ⟨begunP F, [], 0, true, 0⟩
def behindG (F : Fm) (L : List Ev) : Option Gr := L.foldl (fun o e => o.bind fun g => wentN F g e) (some (begunG F))
def behindN (F : Fm) (L : List Ev) : Option Pic := (behindG F L).map fun g => g.P
def eOP : Option Pic → PyData
  | none => .none
  | some P => eP P
structure GrOk (F : Fm) (g : Gr) : Prop where
  len : g.P.length = F.c
  w : WOk F g.ws
  wl : g.ws.length ≤ F.d
theorem begunG_ok {F : Fm} : GrOk F (begunG F) := ⟨by unfold begunG begunP; simp, fun w hw => by simp [begunG] at hw, by simp [begunG]⟩
theorem wentN_ok {F : Fm} (h : F.Ok) {g g' : Gr} {e : Ev} (hg : GrOk F g) (he : wentN F g e = some g') : GrOk F g' ∧ g'.k ≤ g.k + 1 := by
  have hd := h.d1
  have hc := h.c2
  obtain ⟨hp, hw, hl⟩ := hg
  unfold wentN at he
  split at he
  · cases e with
    | write n =>
      cases he
      unfold writeG
      by_cases q : g.ws.length = F.d
      · rw [if_pos q]
        refine ⟨⟨by dsimp only; rw [land_length]; exact hp, fun w hw => ?_, by simp; omega⟩, by dsimp only; omega⟩
        simp only [List.nil_append, List.mem_singleton] at hw
        subst hw
        exact ⟨Int.emod_nonneg _ (by omega), Int.emod_lt_of_pos _ (by omega)⟩
      · rw [if_neg q]
        refine ⟨⟨hp, fun w hw' => ?_, by simp; omega⟩, by dsimp only; omega⟩
        rcases List.mem_append.mp hw' with q | q
        · exact hw w q
        · rw [List.mem_singleton.mp q]
          exact ⟨Int.emod_nonneg _ (by omega), Int.emod_lt_of_pos _ (by omega)⟩
    | sync => cases he; exact ⟨⟨by dsimp only; rw [land_length]; exact hp, fun w hw => by simp at hw, by simp⟩, by dsimp only; omega⟩
    | cut fs =>
      dsimp only at he
      split at he
      · cases he; exact ⟨⟨by dsimp only; rw [fall_length]; exact hp, fun w hw => by simp at hw, by simp⟩, by dsimp only; omega⟩
      · cases he
    | wake => cases he
    | mend k fs => cases he
  · split at he
    · cases he
    · cases e with
      | wake => cases he; exact ⟨⟨by dsimp only; rw [land_length]; exact hp, hw, hl⟩, by dsimp only; omega⟩
      | mend k fs =>
        dsimp only at he
        split at he
        · cases he; exact ⟨⟨by dsimp only; rw [fall_length]; exact hp, hw, hl⟩, by dsimp only; omega⟩
        · cases he
      | write n => cases he
      | sync => cases he
      | cut fs => cases he
theorem foldlG_none {F : Fm} : ∀ L : List Ev, L.foldl (fun o e => o.bind fun g => wentN F g e) none = none
  | [] => rfl
  | _ :: L => foldlG_none L
theorem behindG_snoc (F : Fm) (L : List Ev) (e : Ev) : behindG F (L ++ [e]) = (behindG F L).bind fun g => wentN F g e := by
  unfold behindG
  rw [List.foldl_append]
  rfl
theorem behindG_pre {F : Fm} {L M : List Ev} (h : behindG F L = none) : behindG F (L ++ M) = none := by
  unfold behindG at h ⊢
  rw [List.foldl_append, h, foldlG_none]
theorem pre_split {S S' : Sto} (h : Pre (fun i => i < S.length) S S') : S' = S ++ S'.drop S.length := by
  have e : S'.take S.length = S := by
    apply List.ext_getElem?
    intro i
    rw [List.getElem?_take]
    by_cases q : i < S.length
    · rw [if_pos q]; exact h.2 i q
    · rw [if_neg q, List.getElem?_eq_none (by omega)]
  have := List.take_append_drop S.length S'
  rw [e] at this
  exact this.symm
section
variable {S S1 : Sto} {δ δ' : DEnv} {F : Fm} {P : Pic} {w : Wv}
theorem v_lbars (ok : OkS S) (h : F.Ok) (hp : P.length = F.c) (hf : Face w P S) (s : Int) (h0 : 0 ≤ s) (h1 : s < 1000) : g__law_bars [.d (eF F), w, .d (.int s)] S = some (.d (.tuple (eIs (barsG F P s))), S) := by
  have h6 := h.c6
  have hdc := h.dc
  refine trim_d (T := [iw (barsGU F P s)]) ?_ rfl ok
  refine sem_rt (seq (mSet_v (mMut_v (ws := []) rfl)) ?_)
  obtain ⟨δ2, S2, e2, x, y, z, rfl, rfl⟩ := for_inv (n := nName 4)
    (b := mSeq (mSet 5 (mBin fMod (mCall cInt (mCons (mVar 4) mNil)) (mBin fIx (mVar 0) (mC (.int 0))))) (mSeq (mSet 6 (mCall g__law_shows (mCons (mVar 0) (mCons (mVar 1) (mCons (mVar 4) mNil))))) (mSeq (mIfS (mTst (mBin fGe (mVar 4) (mVar 2))) (mSet 6 (mOr (mVar 6) (mOr (mBin fEq (mBin fIx (mVar 1) (mVar 5)) (mTup (mCons (mC (.str "torn")) mNil))) (mCall g__law_shows (mCons (mVar 0) (mCons (mVar 1) (mCons (mBin fSub (mVar 4) (mBin fIx (mVar 0) (mC (.int 0)))) mNil))))))) mNext) (mIfS (mtNot (mTst (mVar 6))) (mDrop (mAppend (mVar 3) (mVar 5))) mNext))))
    (mi := mRange2 (mBin fAdd (mBin fSub (mVar 2) (mBin fIx (mVar 0) (mC (.int 0)))) (mBin fIx (mVar 0) (mC (.int 1)))) (mBin fAdd (mVar 2) (mBin fIx (mVar 0) (mC (.int 1))))) (δ := [some (.d (eF F)), some w, some (.d (.int s)), some (.ref S.length), none, none, none]) (S := S ++ [[]])
    (rng (s - F.c + F.d) (s + F.d)) (fun i => .d (.int i)) (fun p δ' S' => ∃ x y z, δ' = [some (.d (eF F)), some w, some (.d (.int s)), some (.ref S.length), x, y, z] ∧ S' = S ++ [iw (p.filterMap fun n => if (shows F P n || (decide (s ≤ n) && (decide (cellAt F P n = none) || shows F P (n - F.c)))) = true then none else some (n % F.c))]) (J := fun _ => True)
    (src_range2 rfl rfl ⟨by omega, by omega, by omega, by omega⟩) (fun _ _ _ _ => trivial) (by
      rintro p n r δ1 S1 hx ⟨x, y, z, rfl, rfl⟩
      have hpl : p.length ≤ (rng (s - F.c + F.d) (s + F.d)).length := by rw [hx]; simp
      rw [rng_length] at hpl
      generalize hA : (p.filterMap fun n => if (shows F P n || (decide (s ≤ n) && (decide (cellAt F P n = none) || shows F P (n - F.c)))) = true then none else some (n % (F.c : Int))) = A
      have hAl : A.length ≤ p.length := by rw [← hA]; exact List.length_filterMap_le _ _
      have hf2 : Face w P (S ++ [iw A]) := hf.app _
      generalize hB : (shows F P n || (decide (s ≤ n) && (decide (cellAt F P n = none) || shows F P (n - F.c)))) = B
      refine ⟨_, _, _, rfl, ?_, some (.d (.int n)), some (.d (.int (n % F.c))), some (.d (.bool B)), rfl, rfl⟩
      rw [List.filterMap_append, hA]
      have third : mIfS (mTst (mBin fGe (mVar 4) (mVar 2))) (mSet 6 (mOr (mVar 6) (mOr (mBin fEq (mBin fIx (mVar 1) (mVar 5)) (mTup (mCons (mC (.str "torn")) mNil))) (mCall g__law_shows (mCons (mVar 0) (mCons (mVar 1) (mCons (mBin fSub (mVar 4) (mBin fIx (mVar 0) (mC (.int 0)))) mNil))))))) mNext
          [some (.d (eF F)), some w, some (.d (.int s)), some (.ref S.length), some (.d (.int n)), some (.d (.int (n % F.c))), some (.d (.bool (shows F P n)))] (S ++ [iw A]) =
          some (Fl.nx [some (.d (eF F)), some w, some (.d (.int s)), some (.ref S.length), some (.d (.int n)), some (.d (.int (n % F.c))), some (.d (.bool B))], S ++ [iw A]) := by
        by_cases q : s ≤ n
        · refine (mIfS_t (S' := S ++ [iw A]) (mTst_b ((mBin_v rfl rfl rfl).trans ?_))).trans (mSet_v (w := .d (.bool B)) ?_)
          · show some (Wv.d (.bool (decide (s ≤ n))), _) = _
            rw [decide_eq_true q]
          · refine (mOr_bb rfl fun _ => mOr_bb (mBin_v (mBin_v rfl rfl (face_at h hp hf2 n)) rfl (fEq_torn _)) fun _ => cl rfl (v_shows h hp hf2 _)).trans ?_
            rw [← hB, decide_eq_true q, Bool.true_and]
        · refine (mIfS_f (S' := S ++ [iw A]) (mTst_b ((mBin_v rfl rfl rfl).trans ?_))).trans ?_
          · show some (Wv.d (.bool (decide (s ≤ n))), _) = _
            rw [decide_eq_false q]
          · rw [← hB, decide_eq_false q, Bool.false_and, Bool.or_false]
            rfl
      refine seq (mSet_v (mBin_v (cl rfl rfl) rfl (fMod_v n (c := F.c) (by omega)))) (seq (mSet_v (cl rfl (v_shows h hp hf2 n))) (seq third ?_))
      refine (mIfS_b (mtNot_b (mTst_b (p := B) rfl))).trans ?_
      cases B with
      | false =>
        refine (mDrop_v (w := .d .none) ((mAppend_v rfl rfl get_last (by unfold iw; simp; omega)).trans ?_))
        rw [set_last, iw_snoc]
        simp only [List.filterMap_cons, List.filterMap_nil, hB, if_false, Bool.false_eq_true]
      | true =>
        simp only [List.filterMap_cons, List.filterMap_nil, hB, if_true, List.append_nil]
        rfl) ⟨none, none, none, rfl, rfl⟩
  refine seq e2 (mRet_w (cl (mCons_v (mImm_v ((mCallF_v rfl).trans ((cSorted_ref get_last).trans ?_))) rfl) (cTuple_list _)))
  rw [iw_eq]
  rfl
theorem v_face_behind (ok : OkS S) (h : F.Ok) (L : List Ev) (hL : ∀ e ∈ L, EvOk e) (hl : L.length < 1000) : g__law_face_behind [.d (eF F), .d (eL L)] S = some (.d (eOP (behindN F L)), S) := by
  obtain ⟨S0, e0, hg0, p0⟩ := v_gear ok h
  have src : Src (mIter (mVar 1)) [some (.d (eF F)), some (.d (eL L)), some (.ref (S.length + 2)), none] S0 (L.map fun e => .d (eE e)) (fun _ => True) := by
    have := src_tup (a := mVar 1) (δ := [some (.d (eF F)), some (.d (eL L)), some (.ref (S.length + 2)), none]) (S := S0) (ds := L.map eE) (J := fun _ => True) rfl
    rw [List.map_map] at this
    exact this
  have first : ∀ r, mSeq (mSet 2 (mCall g__law_gear (mCons (mVar 0) mNil))) r [some (.d (eF F)), some (.d (eL L)), none, none] S = r [some (.d (eF F)), some (.d (eL L)), some (.ref (S.length + 2)), none] S0 := fun r => (mSeq_nx (mSet_v (cl rfl e0))).trans rfl
  rcases for_inv3 (n := nName 3) (b := mIfS (mtNot (mTst (mCall g__law_went (mCons (mVar 0) (mCons (mVar 2) (mCons (mVar 3) mNil)))))) (mRet (mC .none)) mNext)
    L (fun e => .d (eE e)) (fun p δ' S' => ∃ g y, behindG F p = some g ∧ δ' = [some (.d (eF F)), some (.d (eL L)), some (.ref (S.length + 2)), y] ∧ GrOk F g ∧ g.k ≤ p.length ∧ GearAt F (fun i => i < S.length) S' (S.length + 2) g ∧ Pre (fun i => i < S.length) S S') (fun _ _ => False) (fun w S' => w = .d .none ∧ behindG F L = none ∧ Pre (fun i => i < S.length) S S') src (fun _ _ _ _ => trivial) (by
      rintro p x r δ1 S1 hx ⟨g, y, eg, rfl, hgo, hk, hga, hpre⟩
      have hpl : p.length < L.length := by rw [hx]; simp
      obtain ⟨w1, w2⟩ := v_went h hgo.len hgo.w hgo.wl (by omega) hga x (hL x (by rw [hx]; simp))
      refine ⟨_, rfl, ?_⟩
      cases ew : wentN F g x with
      | none =>
        refine .inr (.inr ⟨.d .none, S1, (mIfS_t (mtNot_b (p := false) (mTst_b (cl rfl (w2 ew))))).trans (mRet_w rfl), rfl, ?_, hpre⟩)
        rw [hx, show p ++ x :: r = (p ++ [x]) ++ r by simp]
        exact behindG_pre (by rw [behindG_snoc, eg]; exact ew)
      | some g' =>
        obtain ⟨S', e1, hga', p1⟩ := w1 g' ew
        obtain ⟨o1, o2⟩ := wentN_ok h hgo ew
        exact .inl ⟨_, S', (mIfS_f (mtNot_b (p := true) (mTst_b (cl rfl e1)))).trans rfl, g', some (.d (eE x)), by rw [behindG_snoc, eg]; exact ew, rfl, o1, by simp; omega, hga', hpre.trans p1⟩) ⟨begunG F, none, rfl, rfl, begunG_ok, Nat.le_refl _, hg0, p0⟩ with ⟨δ', S', e, hh⟩ | ⟨w, S', e, rfl, hn, hpre⟩
  · rcases hh with ⟨g, y, eg, rfl, hgo, hk, hga, hpre⟩ | hh
    · obtain ⟨ok', i1, i2, nt, b, hA⟩ := hga
      have eb : behindN F L = some g.P := by unfold behindN; rw [eg]; rfl
      rw [eb]
      refine trim_d (S1 := S) (T := S'.drop S.length) ?_ rfl ok
      rw [← pre_split hpre]
      refine sem_rt ((first _).trans ((guard_f (p := false) (mtNot_b (p := true) (mTst_b rfl)) rfl).trans (seq e (mRet_w (cl (mCons_v (mBin_v rfl rfl (fIx_ref hA.gn (k := 1) rfl rfl)) rfl) (cTuple_ref ?_))))))
      rw [← cw_eq]
      exact hA.g1
    · exact hh.elim
  · have eb : behindN F L = none := by unfold behindN; rw [hn]; rfl
    rw [eb]
    refine trim_d (S1 := S) (T := S'.drop S.length) ?_ rfl ok
    rw [← pre_split hpre]
    exact sem_rt ((first _).trans ((guard_f (p := false) (mtNot_b (p := true) (mTst_b rfl)) rfl).trans (mSeq_rt e)))
theorem v_face_behind_list (ok : OkS S) (h : F.Ok) (ds : List PyData) : g__law_face_behind [.d (eF F), .d (.list ds)] S = some (.d .none, S) := by
  obtain ⟨S0, e0, hg0, p0⟩ := v_gear ok h
  refine trim_d (S1 := S) (T := S0.drop S.length) ?_ rfl ok
  rw [← pre_split p0]
  exact sem_rt (seq (mSet_v (cl rfl e0)) (guard_t (p := true) (mtNot_b (p := false) (mTst_b rfl)) rfl (mRet_w rfl)))
end
end K15
set_option Elab.async false
set_option linter.all false
set_option maxRecDepth 100000
set_option maxHeartbeats 4000000
set_option autoImplicit false
namespace K15
open PySem PySem.Spec PyProof.Rows L2
section
variable {S S1 : Sto} {δ δ' : DEnv} {F : Fm} {P : Pic} {w : Wv}
/-! lists -/
theorem gl_succ (k : Nat) : gR__law_lists (k + 1) = sem 2 (m__law_lists (gR__law_lists k)) := rfl
theorem lists_leaf (g : FC) (x : PyData) (h : isiAny (.d x) [.list, .tuple] = some false) : sem 2 (m__law_lists g) [.d x] S = some (.d x, S) := by
  refine sem_rt (mRet_w ?_)
  refine (mIf_f (S1 := S) (mTst_b ?_)).trans rfl
  show (isiAny (.d x) [.list, .tuple]).map _ = _
  rw [h]
  rfl
theorem listsR (k : Nat) (x0 y0 : PyData) (ds es : List PyData) (h0 : x0 = .tuple ds ∨ x0 = .list ds) (hy : y0 = .list es) (hlen : ds.length < 1000000) (hl : es.length = ds.length) (h : ∀ (i : Nat) (x y : PyData), ds[i]? = some x → es[i]? = some y → gR__law_lists k [.d x] S = some (.d y, S)) :
    gR__law_lists (k + 1) [.d x0] S = some (.d y0, S) := by
  rw [gl_succ, hy]
  refine sem_rt (mRet_w ?_)
  have key : mComp (mIter (mVar 0)) (nName 1) mtYes (mCall (gR__law_lists k) (mCons (mVar 1) mNil)) [1] [some (.d x0), none] S = some (es.map .d, S) := by
    obtain ⟨acc, S', key, rfl, rfl⟩ : ∃ acc S', mComp (mIter (mVar 0)) (nName 1) mtYes (mCall (gR__law_lists k) (mCons (mVar 1) mNil)) [1] [some (.d x0), none] S = some (acc, S') ∧ S' = S ∧ acc = (es.map .d).take ds.length := by
      refine comp_inv (J := fun S' => S' = S) ds .d (fun p acc S' => S' = S ∧ acc = (es.map .d).take p.length) ?_ (fun p acc S' h => h.1) hlen ?_ ⟨rfl, rfl⟩
      · rcases h0 with rfl | rfl
        · exact src_tup rfl
        · exact src_list rfl
      · rintro p x r acc S1 hx ⟨rfl, rfl⟩
        refine ⟨_, rfl, .inr ⟨S1, ?_⟩⟩
        have hp : p.length < ds.length := by rw [hx]; simp
        have e1 : ds[p.length]? = some x := by rw [hx]; simp
        have e2 : es[p.length]? = some es[p.length] := List.getElem?_eq_getElem (by omega)
        refine ⟨.d es[p.length], S1, rfl, h _ _ _ e1 e2, rfl, ?_⟩
        rw [List.length_append, List.length_singleton]
        exact (take_snoc (by rw [List.getElem?_map, e2]; rfl)).symm
    rw [key, List.take_of_length_le (by simp; omega)]
  refine (mIf_t (S1 := S) (mTst_b (p := true) ?_)).trans ?_
  · rcases h0 with rfl | rfl <;> rfl
  · exact mImm_v key
theorem listsR_int (k : Nat) (i : Int) : gR__law_lists (k + 1) [.d (.int i)] S = some (.d (.int i), S) := by
  rw [gl_succ]
  exact lists_leaf _ _ rfl
theorem listsR_note (k : Nat) (n : Note) : gR__law_lists (k + 2) [.d (eN n)] S = some (.d (lN n), S) := by
  cases n <;> kernel_rfl
theorem listsR_C (k : Nat) (x : Cell) : gR__law_lists (k + 3) [.d (eC x)] S = some (.d (lC x), S) := by
  cases x with
  | none => kernel_rfl
  | some x =>
    refine listsR (k + 2) _ _ [.int x.1, eN x.2] [.int x.1, lN x.2] (.inl rfl) rfl (by simp) rfl fun i a b h1 h2 => ?_
    match i with
    | 0 => cases h1; cases h2; exact listsR_int (k + 1) _
    | 1 => cases h1; cases h2; exact listsR_note k _
    | i + 2 => cases h1
theorem v_lists_P (P : Pic) (hl : P.length < 1000) : g__law_lists [.d (eP P)] S = some (.d (lP P), S) := by
  rw [show g__law_lists = gR__law_lists 12 from rfl]
  refine listsR 11 _ _ (P.map eC) (P.map lC) (.inl rfl) rfl (by simp; omega) (by simp) fun i a b h1 h2 => ?_
  rw [List.getElem?_map] at h1 h2
  cases e : P[i]? with
  | none => rw [e] at h1; cases h1
  | some x => rw [e] at h1 h2; cases h1; cases h2; exact listsR_C 8 x
theorem v_lists_F (F : Fm) : g__law_lists [.d (eF F)] S = some (.d (lF F), S) := by
  rw [show g__law_lists = gR__law_lists 12 from rfl]
  refine listsR 11 _ _ [.int F.c, .int F.d, .int F.m] [.int F.c, .int F.d, .int F.m] (.inl rfl) rfl (by simp) rfl fun i a b h1 h2 => ?_
  match i with
  | 0 => cases h1; cases h2; exact listsR_int 10 _
  | 1 => cases h1; cases h2; exact listsR_int 10 _
  | 2 => cases h1; cases h2; exact listsR_int 10 _
  | i + 3 => cases h1
/-! pick -/
theorem mPop_v {o e : ME} {n : Nat} {i : Int} {ws : List Wv} {u : Wv} {S' : Sto} (ho : o δ S = some (.ref n, S)) (he : e δ S = some (.d (.int i), S')) (hn : S'[n]? = some ws) (h0 : 0 ≤ i) (h1 : i < 1000000) (hu : ws[i.toNat]? = some u) :
    mPop o e δ S = some (u, S'.set n (ws.eraseIdx i.toNat)) := by
  unfold mPop
  rw [ho, Option.bind_some]
  show (e δ S).bind _ = _
  rw [he, Option.bind_some]
  show (S'[n]?).bind _ = _
  rw [hn, Option.bind_some, if_pos, hu]
  · rfl
  · exact ⟨h0, by omega⟩
theorem iw_erase (l : List Int) (k : Nat) : (iw l).eraseIdx k = iw (l.eraseIdx k) := by
  unfold iw
  induction l generalizing k with
  | nil => rfl
  | cons a l ih =>
    cases k with
    | zero => rfl
    | succ k => exact congrArg (Wv.d (.int a) :: ·) (ih k)
theorem v_pick {n k : Nat} {t : Tin} {goods : List Int} (ok : OkS S) (hn : S[n]? = some (tl t)) (ht : TOk k t) (hk : k + goods.length < 1000000000) (hg : goods.length < 100) (cnt : Int) (hc : cnt < 1000) (hc0 : 0 ≤ cnt) :
    ∃ l t', g__law_pick [.ref n, .d (.list (eIs goods)), .d (.int cnt)] S = some (.d (.list (eIs l)), S.set n (tl t')) ∧ TOk (k + goods.length) t' ∧ (∀ x ∈ l, x ∈ goods) ∧ l.length ≤ goods.length := by
  have ln := get_lt hn
  have e1 : (S ++ [iw goods]).length = S.length + 1 := by simp
  have hmin : ∀ M : Int, M = (if ((goods.length : Nat) : Int) < cnt then ((goods.length : Nat) : Int) else cnt) → 0 ≤ M ∧ M ≤ goods.length := fun M e => by subst e; split <;> omega
  generalize hM : (if ((goods.length : Nat) : Int) < cnt then ((goods.length : Nat) : Int) else cnt) = M at hmin
  have hM2 := hmin M rfl
  have lgw : (iw goods).length = goods.length := by unfold iw; simp
  obtain ⟨δ2, S2, e2, x, pool, l, t', rfl, rfl, hpool, hsub, hll, ok'⟩ := for_inv (n := nName 5) (b := mDrop (mAppend (mVar 4) (mPop (mVar 3) (mCall g__law_take (mCons (mVar 0) (mCons (mCall cLen (mCons (mVar 3) mNil)) mNil))))))
    (mi := mRange1 (mCall cMin (mCons (mCall cInt (mCons (mVar 2) mNil)) (mCons (mCall cLen (mCons (mVar 3) mNil)) mNil)))) (δ := [some (.ref n), some (.d (.list (eIs goods))), some (.d (.int cnt)), some (.ref S.length), some (.ref (S.length + 1)), none]) (S := (S ++ [iw goods]) ++ [[]])
    (rng 0 M) (fun i => .d (.int i)) (fun p δ' S' => ∃ x pool l t', δ' = [some (.ref n), some (.d (.list (eIs goods))), some (.d (.int cnt)), some (.ref S.length), some (.ref (S.length + 1)), x] ∧ S' = (S.set n (tl t') ++ [iw pool]) ++ [iw l] ∧ pool.length + p.length = goods.length ∧ (∀ x, (x ∈ l ∨ x ∈ pool) → x ∈ goods) ∧ l.length = p.length ∧ TOk (k + p.length) t') (J := fun _ => True)
    (src_range1 (by
      have g3 : ((S ++ [iw goods]) ++ [[]])[S.length]? = some (iw goods) := by rw [List.getElem?_append_left (by simp)]; exact get_last
      refine cl (mCons_v (cl rfl rfl) (mCons_v (cl rfl (cLen_ref g3)) rfl)) ?_
      rw [lgw]
      show some (Wv.d (.int (if ((goods.length : Nat) : Int) < cnt then ((goods.length : Nat) : Int) else cnt)), _) = _
      rw [hM]) ⟨by omega, by omega⟩) (fun _ _ _ _ => trivial) (by
      rintro p i r δ1 S1 hx ⟨x, pool, l, t1, rfl, rfl, hpool, hsub, hll, ok1⟩
      have hpl : p.length < (rng 0 M).length := by rw [hx]; simp
      rw [rng_length] at hpl
      have hpos : 0 < pool.length := by omega
      have gt : ∀ t : Tin, ((S.set n (tl t) ++ [iw pool]) ++ [iw l])[n]? = some (tl t) := fun t => by
        rw [List.getElem?_append_left (by simp; omega), List.getElem?_append_left (by simp; omega), List.getElem?_set_self ln]
      have st : ∀ t t' : Tin, ((S.set n (tl t) ++ [iw pool]) ++ [iw l]).set n (tl t') = (S.set n (tl t') ++ [iw pool]) ++ [iw l] := fun t t' => by
        rw [set_app (by simp; omega), set_app (by simp; omega), List.set_set]
      have gp : ∀ (t : Tin) (pool : List Int), ((S.set n (tl t) ++ [iw pool]) ++ [iw l])[S.length]? = some (iw pool) := fun t pool => by
        rw [List.getElem?_append_left (by simp)]
        have e : S.length = (S.set n (tl t)).length := by simp
        rw [e]
        exact get_last
      have lp : (iw pool).length = pool.length := by unfold iw; simp
      obtain ⟨v, t2, e2, ok2, v0, v1⟩ := v_take (S := (S.set n (tl t1) ++ [iw pool]) ++ [iw l]) (r := (pool.length : Nat)) (gt t1) ok1 (by omega) (by omega) (by omega)
      rw [st] at e2
      have hv : v.toNat < pool.length := by omega
      refine ⟨_, _, _, rfl, ?_, some (.d (.int i)), pool.eraseIdx v.toNat, l ++ [pool[v.toNat]], t2, rfl, rfl, ?_, ?_, by simp; omega, ?_⟩
      · have pop : mPop (mVar 3) (mCall g__law_take (mCons (mVar 0) (mCons (mCall cLen (mCons (mVar 3) mNil)) mNil))) [some (.ref n), some (.d (.list (eIs goods))), some (.d (.int cnt)), some (.ref S.length), some (.ref (S.length + 1)), some (.d (.int i))] ((S.set n (tl t1) ++ [iw pool]) ++ [iw l]) = some (.d (.int pool[v.toNat]), (S.set n (tl t2) ++ [iw (pool.eraseIdx v.toNat)]) ++ [iw l]) := by
          refine (mPop_v rfl (cl (mCons_v rfl (mCons_v ((cl rfl (cLen_ref (gp t1 pool))).trans (by rw [lp])) rfl)) e2) (gp t2 pool) v0 (by omega) (by unfold iw; rw [List.getElem?_map, List.getElem?_eq_getElem hv]; rfl)).trans ?_
          rw [iw_erase, set_app (by simp)]
          have e : S.length = (S.set n (tl t2)).length := by simp
          have := set_last (S := S.set n (tl t2)) (l := iw pool) (l' := iw (pool.eraseIdx v.toNat))
          rw [← e] at this
          rw [this]
        refine mDrop_v (w := .d .none) ((mAppend_v rfl pop (ws := iw l) ?_ (by unfold iw; simp; omega)).trans ?_)
        · have e : S.length + 1 = (S.set n (tl t2) ++ [iw (pool.eraseIdx v.toNat)]).length := by simp
          rw [e]
          exact get_last
        · have e : S.length + 1 = (S.set n (tl t2) ++ [iw (pool.eraseIdx v.toNat)]).length := by simp
          rw [e, set_last, iw_snoc]
      · rw [List.length_eraseIdx_of_lt hv, List.length_append, List.length_singleton]
        omega
      · rintro y (hy | hy)
        · rcases List.mem_append.mp hy with hy | hy
          · exact hsub y (.inl hy)
          · rw [List.mem_singleton.mp hy]
            exact hsub _ (.inr (List.getElem_mem hv))
        · exact hsub y (.inr (List.mem_of_mem_eraseIdx hy))
      · rw [List.length_append, List.length_singleton]
        exact ok2) ⟨none, goods, [], t, rfl, by rw [set_self hn]; rfl, by simp, fun x hx => hx.elim (fun z => by simp at z) id, rfl, ht⟩
  rw [rng_length] at ok' hll
  refine ⟨l, t', trim_l (S1 := S.set n (tl t')) (T := [iw pool, iw l]) (l := S.length + 1) ?_ (by simp) ok.tin (by omega) ?_, ok'.mono (by omega), fun x hx => hsub x (.inl hx), by omega⟩
  · refine sem_rt (seq (mPar_v (mCons_v (mMut_v (ws := iw goods) (S' := S) ?_) (mCons_v (mMut_v (ws := []) rfl) rfl))) ?_)
    · refine (mCallF_v rfl).trans ?_
      show (some ((eIs goods).map Wv.d)).map (fun ws => (ws, S)) = _
      rw [← iw_eq]
      rfl
    · rw [e1]
      refine seq e2 (mRet_w ?_)
      show some (_, (S.set n (tl t') ++ [iw pool]) ++ [iw l]) = _
      simp
  · rw [List.getElem?_append_right (by simp)]
    simp
    unfold iw eIs
    simp
/-! heard -/
theorem mIfX_t {c : MT} {a b : MX} (h : c δ S = some (true, S1)) : mIfX c a b δ S = a δ S1 := by unfold mIfX; rw [h]; rfl
theorem mIfX_f {c : MT} {a b : MX} (h : c δ S = some (false, S1)) : mIfX c a b δ S = b δ S1 := by unfold mIfX; rw [h]; rfl
theorem mCallX_v {f : FX} {g : {β : Type} → List β → List β} {a : MA} {ws : List Wv} {r : Option (Option Wv × Sto)} (h : a δ S = some (ws, S1)) (h2 : f (g ws) S1 = r) : mCallX f g a δ S = r := by unfold mCallX; rw [h]; exact h2
theorem mTry_some {i j : Nat} {txt : Str} {a : MX} {w : Wv} {S' : Sto} (h : a δ S = some (some w, S')) : mTry i j txt a δ S = some (.nx (δ.set i (some w)), S') := by unfold mTry; rw [h]; rfl
theorem mTry_none {i j : Nat} {txt : Str} {a : MX} {S' : Sto} (h : a δ S = some (none, S')) (hj : j < δ.length) : mTry i j txt a δ S = some (.nx ((δ.set i (some (.d (.list [.str txt, .bool true])))).set j none), S') := by
  unfold mTry
  rw [h, Option.bind_some]
  show (if j < δ.length then _ else _) = _
  rw [if_pos hj]
theorem v_heard0_yes (ok : OkS S) (h : F.Ok) (hp : PicOk F P) {i : Nat} (hi : firstN F P = some i) : g__law_heard [.d (.int 0), .d (eF F), .d (eP P)] S = some ((.d (eL (toLife F P i))), S) := by
  have c : mTst (mBin fEq (mVar 0) (mC (.int 0))) [some (.d (.int 0)), some (.d (eF F)), some (.d (eP P)), some (.d .none), none] S = some (true, S) := mTst_b (mBin_v rfl rfl (fEq_int _ _))
  exact sem_rt (seq (mSet_v rfl) (seq (mTry_some ((mIfX_t c).trans (mCallX_v (mCons_v rfl (mCons_v rfl rfl)) (v_life_to_yes ok h hp hi)))) (mRet_w rfl)))
theorem v_heard0_no (ok : OkS S) (h : F.Ok) (hp : PicOk F P) (hc : canN F P = false) : g__law_heard [.d (.int 0), .d (eF F), .d (eP P)] S = some ((.d (.list [.str "can not", .bool true])), S) := by
  have c : mTst (mBin fEq (mVar 0) (mC (.int 0))) [some (.d (.int 0)), some (.d (eF F)), some (.d (eP P)), some (.d .none), none] S = some (true, S) := mTst_b (mBin_v rfl rfl (fEq_int _ _))
  exact sem_rt (seq (mSet_v rfl) (seq (mTry_none ((mIfX_t c).trans (mCallX_v (mCons_v rfl (mCons_v rfl rfl)) (v_life_to_no ok h hp hc))) (show 4 < 5 by omega)) (mRet_w rfl)))
theorem v_heard1_yes (ok : OkS S) (h : F.Ok) (hp : PicOk F P) (hc : canN F P = false) : g__law_heard [.d (.int 1), .d (eF F), .d (eP P)] S = some ((.d (.tuple (eIs (reasonN F P)))), S) := by
  have c : mTst (mBin fEq (mVar 0) (mC (.int 0))) [some (.d (.int 1)), some (.d (eF F)), some (.d (eP P)), some (.d .none), none] S = some (false, S) := mTst_b (mBin_v rfl rfl (fEq_int _ _))
  exact sem_rt (seq (mSet_v rfl) (seq (mTry_some ((mIfX_f c).trans (mCallX_v (mCons_v rfl (mCons_v rfl rfl)) (v_reason_yes ok h hp hc)))) (mRet_w rfl)))
theorem v_heard1_no (ok : OkS S) (h : F.Ok) (hp : PicOk F P) (hc : canN F P = true) : g__law_heard [.d (.int 1), .d (eF F), .d (eP P)] S = some ((.d (.list [.str "can not", .bool true])), S) := by
  have c : mTst (mBin fEq (mVar 0) (mC (.int 0))) [some (.d (.int 1)), some (.d (eF F)), some (.d (eP P)), some (.d .none), none] S = some (false, S) := mTst_b (mBin_v rfl rfl (fEq_int _ _))
  exact sem_rt (seq (mSet_v rfl) (seq (mTry_none ((mIfX_f c).trans (mCallX_v (mCons_v rfl (mCons_v rfl rfl)) (v_reason_no ok h hp hc))) (show 4 < 5 by omega)) (mRet_w rfl)))
/-! is_reason -/
theorem eIs_nil (l : List Int) : decide (eIs l = []) = decide (l = []) := by cases l <;> simp [eIs]
theorem notin_v (i : Int) (l : List Int) : fInB true (.d (.int i)) (.d (.tuple (eIs l))) S = some (.d (.bool (!decide (i ∈ l))), S) := by
  have fl : (flatD (.int i) && (eIs l).all flatD) = true := by
    rw [Bool.and_eq_true]
    refine ⟨rfl, ?_⟩
    rw [List.all_eq_true]
    intro x hx
    obtain ⟨j, _, rfl⟩ := List.mem_map.mp hx
    rfl
  show (if (flatD (.int i) && (eIs l).all flatD) = true then some (Wv.d (.bool (true ^^ (eIs l).any fun z => PyData.eqv z (.int i))), S) else none) = _
  rw [if_pos fl]
  have : ((eIs l).any fun z => PyData.eqv z (.int i)) = decide (i ∈ l) := by
    clear fl
    unfold eIs
    rw [List.any_map]
    induction l with
    | nil => simp
    | cons a l ih =>
      rw [List.any_cons, ih]
      show (PyData.eqv (.int a) (.int i) || _) = _
      rw [eqv_int]
      by_cases e : a = i
      · simp [e]
      · have : ¬ i = a := fun z => e z.symm
        simp [e, this]
  rw [this]
  simp
theorem fIx_tup {ds : List PyData} {i : Int} {k : Nat} {x : PyData} (hi : i = k) (h : ds[k]? = some x) : fIx (.d (.tuple ds)) (.d (.int i)) S = some (.d x, S) := by
  show (atI ds i).map _ = _
  rw [atI_nat hi h]
  rfl
theorem v_lis_reason (ok : OkS S) (h : F.Ok) (hp : P.length = F.c) (hf : Face w P S) (ws : List Int) (hw : ws.length < 1000) : g__law_is_reason [.d (eF F), w, .d (.tuple (eIs ws))] S = some (.d (.bool (isReasonG F P ws)), S) := by
  have ht := h.tle
  have le : (eIs ws).length = ws.length := by unfold eIs; simp
  have c1 : mtOr (mtNot (mTst (mCall cIsi (mCons (mVar 2) (mCons (mTy .tuple) mNil))))) (mTst (mBin fNe (mCall cLen (mCons (mVar 2) mNil)) (mBin fMulA (mBin fIx (mVar 0) (mC (.int 0))) (mBin fIx (mVar 0) (mC (.int 2)))))) [some (.d (eF F)), some w, some (.d (.tuple (eIs ws))), none, none] S = some (!decide (((eIs ws).length : Int) = F.t), S) :=
    (mtOr_b (p := false) (mtNot_b (p := true) (mTst_b rfl)) fun _ => mTst_b (mBin_v rfl (turn_v h rfl rfl) (fNe_int _ _))).trans rfl
  rw [le] at c1
  have src : Src (mIter (mVar 2)) [some (.d (eF F)), some w, some (.d (.tuple (eIs ws))), none, none] S (ws.map fun i => .d (.int i)) (fun S' => S' = S) := by
    have := src_tup (a := mVar 2) (δ := [some (.d (eF F)), some w, some (.d (.tuple (eIs ws))), none, none]) (S := S) (ds := eIs ws) (J := fun S' => S' = S) rfl
    unfold eIs at this
    rw [List.map_map] at this
    exact this
  have c2 : mTst (mBin fNe (mImm (mComp (mIter (mVar 2)) (nName 3) (mtOr (mtNot (mTst (mCall cIsi (mCons (mVar 3) (mCons (mTy .int) mNil))))) (mTst (mCall cIsi (mCons (mVar 3) (mCons (mTy .bool) mNil))))) (mVar 3) [3])) (mImm (mLst mNil))) [some (.d (eF F)), some w, some (.d (.tuple (eIs ws))), none, none] S = some (false, S) := by
    have e := comp_src (n := nName 3) (t := mtOr (mtNot (mTst (mCall cIsi (mCons (mVar 3) (mCons (mTy .int) mNil))))) (mTst (mCall cIsi (mCons (mVar 3) (mCons (mTy .bool) mNil))))) (e := mVar 3) (vs := [3]) (β := Int) ws (fun i => .d (.int i)) (fun _ => none) (fun i => .d (.int i)) src (by omega) fun x hx => ⟨_, rfl, .inl ⟨rfl, rfl⟩⟩
    have e0 : (ws.filterMap fun _ => (none : Option Int)) = [] := by simp
    rw [e0] at e
    exact mTst_b (mBin_v (mImm_v (ds := []) e) rfl (fNe_of (b := true) (shp_eIL []).sh (shp_eIL []).sh (by decide +kernel)))
  unfold isReasonG
  by_cases q : (ws.length : Int) = F.t
  · refine sem_rt ((guard_f c1 (by simp [q])).trans ((guard_f c2 rfl).trans (mRet_w ?_)))
    have e := comp_src (n := nName 4) (t := mTst (mBin (fInB true) (mBin fIx (mVar 2) (mVar 4)) (mCall g__law_bars (mCons (mVar 0) (mCons (mVar 1) (mCons (mVar 4) mNil)))))) (e := mVar 4) (vs := [4]) (mi := mRange1 (mCall cLen (mCons (mVar 2) mNil))) (δ := [some (.d (eF F)), some w, some (.d (.tuple (eIs ws))), none, none]) (S := S)
      (rng 0 (ws.length : Nat)) (fun i => .d (.int i)) (fun n => if decide ((ws[n.toNat]?).getD 0 ∈ barsG F P n) = true then none else some n) (fun i => .d (.int i)) (src_range1 (j := (ws.length : Nat)) (by
        refine (show _ = some (Wv.d (.int ((eIs ws).length : Nat)), S) from rfl).trans ?_
        rw [le]) ⟨by omega, by omega⟩) (by rw [rng_length]; omega) fun n hn => ⟨_, rfl, by
        have hb := mem_rng.mp hn
        have hn2 : n.toNat < ws.length := by omega
        have c : mTst (mBin (fInB true) (mBin fIx (mVar 2) (mVar 4)) (mCall g__law_bars (mCons (mVar 0) (mCons (mVar 1) (mCons (mVar 4) mNil))))) (setsD (wipeD [some (.d (eF F)), some w, some (.d (.tuple (eIs ws))), none, none] [4]) [(4, .d (.int n))]) S = some (!decide ((ws[n.toNat]?).getD 0 ∈ barsG F P n), S) :=
          mTst_b (mBin_v (mBin_v rfl rfl (fIx_tup (x := .int ((ws[n.toNat]?).getD 0)) (k := n.toNat) (by omega) (by unfold eIs; rw [List.getElem?_map, List.getElem?_eq_getElem hn2]; rfl))) (cl rfl (v_lbars ok h hp hf n hb.1 (by omega))) (notin_v _ _))
        cases q : decide ((ws[n.toNat]?).getD 0 ∈ barsG F P n) with
        | true => rw [q] at c; exact .inl ⟨rfl, c⟩
        | false => rw [q] at c; exact .inr ⟨n, rfl, c, rfl⟩⟩
    rw [show (((rng 0 (ws.length : Nat)).filterMap fun n => if decide ((ws[n.toNat]?).getD 0 ∈ barsG F P n) = true then none else some n).map fun i => Wv.d (.int i)) = (eIs ((rng 0 (ws.length : Nat)).filterMap fun n => if decide ((ws[n.toNat]?).getD 0 ∈ barsG F P n) = true then none else some n)).map .d from iw_eq _] at e
    refine (eq_nil_v (mImm_v e) (shp_eIs _) (by omega)).trans ?_
    rw [decide_eq_true q, Bool.true_and, eIs_nil, filterMap_nil_iff (rng 0 (ws.length : Nat)) (fun n => decide ((ws[n.toNat]?).getD 0 ∈ barsG F P n)) (fun n => n)]
  · rw [decide_eq_false q] at c1 ⊢
    exact sem_rt (guard_t c1 rfl (mRet_w rfl))
theorem v_lis_reason_other (z : PyData) (hz : isiW (.d z) .tuple = some false) : g__law_is_reason [.d (eF F), w, .d z] S = some (.d (.bool false), S) := by
  refine sem_rt (guard_t (p := true) ((mtOr_b (p := true) (q := true) (mtNot_b (p := false) (mTst_b (ci rfl hz))) (fun q => by cases q)).trans rfl) rfl (mRet_w rfl))
end
end K15
set_option Elab.async false
set_option linter.all false
set_option maxRecDepth 100000
set_option maxHeartbeats 4000000
set_option autoImplicit false
namespace K15
open PySem PySem.Spec PyProof.Rows L2
section
variable {S S1 : Sto} {δ δ' : DEnv} {F : Fm} {P : Pic} {w : Wv}
theorem GearAt.setq {Q : Nat → Prop} {n j : Nat} {g : Gr} {us : List Wv} (h : GearAt F Q S n g) (hj : Q j) (hu : us.all (okR S.length) = true) : GearAt F Q (S.set j us) n g := by
  obtain ⟨ok, i1, i2, nt, b, mn, m1, m2, n1, n2, n12, gn, g1, g2, nk, hq⟩ := h
  refine ⟨ok.set hu, i1, i2, nt, b, mn, m1, m2, n1, n2, n12, ?_, ?_, ?_, nk, fun i hi => by rw [List.length_set]; exact hq i hi⟩
  · rw [List.getElem?_set_ne (fun e => mn (by rw [← e]; exact hj))]; exact gn
  · rw [List.getElem?_set_ne (fun e => m1 (by rw [← e]; exact hj))]; exact g1
  · rw [List.getElem?_set_ne (fun e => m2 (by rw [← e]; exact hj))]; exact g2
theorem GearAt.appq {Q : Nat → Prop} {n : Nat} {g : Gr} {us : List Wv} (h : GearAt F Q S n g) (hu : us.all (okR (S.length + 1)) = true) : GearAt F (fun i => Q i ∨ i = S.length) (S ++ [us]) n g := by
  obtain ⟨ok, i1, i2, nt, b, mn, m1, m2, n1, n2, n12, gn, g1, g2, nk, hq⟩ := h
  have ln := get_lt gn
  have l1 := get_lt g1
  have l2 := get_lt g2
  refine ⟨ok.app hu, i1, i2, nt, b, fun z => z.elim mn (fun e => absurd ln (by rw [e]; exact Nat.lt_irrefl _)), fun z => z.elim m1 (fun e => absurd l1 (by rw [e]; exact Nat.lt_irrefl _)), fun z => z.elim m2 (fun e => absurd l2 (by rw [e]; exact Nat.lt_irrefl _)), n1, n2, n12, ?_, ?_, ?_, nk, fun i hi => ?_⟩
  · rw [List.getElem?_append_left ln]; exact gn
  · rw [List.getElem?_append_left l1]; exact g1
  · rw [List.getElem?_append_left l2]; exact g2
  · rw [List.length_append, List.length_singleton]
    rcases hi with hi | hi
    · have := hq i hi; omega
    · omega
def evw (L : List Ev) : List Wv := L.map fun e => .d (eE e)
theorem evw_eq (L : List Ev) : evw L = (L.map eE).map .d := by unfold evw; rw [List.map_map]; rfl
/-- what the loop of drawn_life keeps -/
structure DrI (F : Fm) (S : Sto) (n0 ng fd : Nat) (k : Nat) (S' : Sto) (g : Gr) (L : List Ev) (t : Tin) : Prop where
  beh : behindG F L = some g
  go : GrOk F g
  gk : g.k ≤ L.length
  ev : ∀ e ∈ L, EvOk e
  ga : GearAt F (fun i => i < S.length ∨ i = fd) S' ng g
  fdw : S'[fd]? = some (evw L)
  pre : Pre (fun i => i < S.length) (S.set n0 (tl t)) S'
  tok : TOk k t
theorem DrI.tin {n0 ng fd k : Nat} {S' : Sto} {g : Gr} {L : List Ev} {t : Tin} (h : DrI F S n0 ng fd k S' g L t) (ln : n0 < S.length) : S'[n0]? = some (tl t) := by
  rw [h.pre.2 n0 ln, List.getElem?_set_self ln]
/-- a draw -/
theorem DrI.draw {n0 ng fd k j : Nat} {S' : Sto} {g : Gr} {L : List Ev} {t t' : Tin} (h : DrI F S n0 ng fd k S' g L t) (ln : n0 < S.length) (hf : S.length ≤ fd) (ht : TOk j t') : DrI F S n0 ng fd j (S'.set n0 (tl t')) g L t' := by
  obtain ⟨h1, h2, h3, h4, h5, h6, h7, h8⟩ := h
  refine ⟨h1, h2, h3, h4, h5.setq (.inl ln) (ok_tl _ _), by rw [List.getElem?_set_ne (by omega)]; exact h6, ⟨by simpa using h7.1, fun i hi => ?_⟩, ht⟩
  have l' : n0 < S'.length := by have := h7.1; rw [List.length_set] at this; omega
  by_cases e : n0 = i
  · subst e
    rw [List.getElem?_set_self l', List.getElem?_set_self ln]
  · have := h7.2 i hi
    rw [List.getElem?_set_ne e] at this
    rw [List.getElem?_set_ne e, List.getElem?_set_ne e]
    exact this
theorem tuple_ref_pic {i1 : Nat} {S' : Sto} {P : Pic} (h : S'[i1]? = some (cw P)) : cTuple [.ref i1] S' = some (.d (eP P), S') := cTuple_ref (by rw [← cw_eq]; exact h)
theorem v_drawn_life {n0 k : Nat} {t : Tin} (ok : OkS S) (h : F.Ok) (hn : S[n0]? = some (tl t)) (ht : TOk k t) (hk : k + 1000 < 1000000000) :
    ∃ L P t', g__law_drawn_life [.ref n0, .d (eF F), .d (.int 12)] S = some (.d (.tuple [eL L, eP P]), S.set n0 (tl t')) ∧ TOk (k + 1000) t' ∧ behindN F L = some P ∧ (∀ e ∈ L, EvOk e) ∧ L.length ≤ 12 := by
  have h6 := h.c6
  have hdc := h.dc
  have ln := get_lt hn
  obtain ⟨S0, e0, hg0, p0⟩ := v_gear ok h
  have hS0 : S.length ≤ S0.length := p0.1
  generalize hfd : S0.length = fd at hS0
  generalize hng : S.length + 2 = ng at e0 hg0
  have start : DrI F S n0 ng fd k (S0 ++ [[]]) (begunG F) [] t := by
    refine ⟨rfl, begunG_ok, Nat.le_refl _, fun e he => by simp at he, ?_, ?_, ?_, ht⟩
    · have := hg0.appq (us := []) rfl
      rw [hfd] at this
      exact this
    · rw [← hfd]; exact get_last
    · rw [set_self hn]
      exact p0.trans (pre_app fun i hi => by have := p0.1; omega)
  have fin : ∀ (S' : Sto) (g : Gr) (L : List Ev) (t' : Tin) (x5 x6 x7 x8 : Option Wv), DrI F S n0 ng fd (k + 1000) S' g L t' → mRet (mTup (mCons (mCall cTuple (mCons (mVar 4) mNil)) (mCons (mCall cTuple (mCons (mBin fIx (mVar 3) (mC (.int 1))) mNil)) mNil))) [some (.ref n0), some (.d (eF F)), some (.d (.int 12)), some (.ref ng), some (.ref fd), x5, x6, x7, x8] S' = some (Fl.rt (.d (.tuple [eL L, eP g.P])), S') := fun S' g L t' x5 x6 x7 x8 hI => by
    obtain ⟨ok', i1, i2, nt, b, hA⟩ := hI.ga
    exact mRet_w (mTup_2 (cl rfl (cTuple_ref (ds := L.map eE) (by rw [← evw_eq]; exact hI.fdw))) (cl (mCons_v (mBin_v rfl rfl (fIx_ref hA.gn (k := 1) rfl rfl)) rfl) (tuple_ref_pic hA.g1)))
  have first : ∀ r, mSeq (mPar 3 4 (mCons (mCall g__law_gear (mCons (mVar 1) mNil)) (mCons (mMut (mLst mNil)) mNil))) r [some (.ref n0), some (.d (eF F)), some (.d (.int 12)), none, none, none, none, none, none] S = r [some (.ref n0), some (.d (eF F)), some (.d (.int 12)), some (.ref ng), some (.ref fd), none, none, none, none] (S0 ++ [[]]) := fun r => by
    rw [← hfd]
    exact (mSeq_nx (mPar_v (mCons_v (cl rfl e0) (mCons_v (mMut_v (ws := []) rfl) rfl)))).trans rfl
  obtain ⟨δ2, S2, e2, hh⟩ : ∃ δ' S', mFor (mRange1 (mVar 2)) (nName 5) (mSeq (mSet 6 (mCall g__law_take (mCons (mVar 0) (mCons (mC (.int 8)) mNil)))) (mSeq (mIfS (mTst (mBin fIx (mVar 3) (mC (.int 7)))) (mSet 7 (mIf (mTst (mBin fLt (mVar 6) (mC (.int 5)))) (mTup (mCons (mC (.str "write")) (mCons (mCall g__law_note (mCons (mVar 0) mNil)) mNil))) (mIf (mTst (mBin fEq (mVar 6) (mC (.int 5)))) (mTup (mCons (mC (.str "sync")) mNil)) (mTup (mCons (mC (.str "cut")) (mCons (mCall g__law_fates (mCons (mVar 0) (mCons (mCall cLen (mCons (mBin fIx (mVar 3) (mC (.int 2))) mNil)) mNil))) mNil)))))) (mIfS (mTst (mBin fIs (mCall g__law_answer (mCons (mVar 1) (mCons (mCall cTuple (mCons (mBin fIx (mVar 3) (mC (.int 1))) mNil)) mNil))) (mC .none))) mBreak (mSeq (mSet 8 (mCall g__law_take (mCons (mVar 0) (mCons (mBin fAdd (mCall cLen (mCons (mCall g__law_mending (mCons (mVar 1) (mCons (mBin fIx (mVar 3) (mC (.int 1))) mNil))) mNil)) (mC (.int 1))) mNil)))) (mSet 7 (mIf (mTst (mBin fLt (mVar 6) (mC (.int 5)))) (mTup (mCons (mC (.str "wake")) mNil)) (mTup (mCons (mC (.str "mend")) (mCons (mVar 8) (mCons (mCall g__law_fates (mCons (mVar 0) (mCons (mVar 8) mNil))) mNil))))))))) (mSeq (mIfS (mtNot (mTst (mCall g__law_went (mCons (mVar 1) (mCons (mVar 3) (mCons (mVar 7) mNil)))))) mBreak mNext) (mDrop (mAppend (mVar 4) (mVar 7))))))
      [some (.ref n0), some (.d (eF F)), some (.d (.int 12)), some (.ref ng), some (.ref fd), none, none, none, none] (S0 ++ [[]]) = some (Fl.nx δ', S') ∧ ∃ g L t' x5 x6 x7 x8, δ' = [some (.ref n0), some (.d (eF F)), some (.d (.int 12)), some (.ref ng), some (.ref fd), x5, x6, x7, x8] ∧ DrI F S n0 ng fd (k + 1000) S' g L t' ∧ L.length ≤ 12 := by
    rcases for_inv3 (n := nName 5) (mi := mRange1 (mVar 2)) (δ := [some (.ref n0), some (.d (eF F)), some (.d (.int 12)), some (.ref ng), some (.ref fd), none, none, none, none]) (S := S0 ++ [[]]) (J := fun _ => True)
      (b := mSeq (mSet 6 (mCall g__law_take (mCons (mVar 0) (mCons (mC (.int 8)) mNil)))) (mSeq (mIfS (mTst (mBin fIx (mVar 3) (mC (.int 7)))) (mSet 7 (mIf (mTst (mBin fLt (mVar 6) (mC (.int 5)))) (mTup (mCons (mC (.str "write")) (mCons (mCall g__law_note (mCons (mVar 0) mNil)) mNil))) (mIf (mTst (mBin fEq (mVar 6) (mC (.int 5)))) (mTup (mCons (mC (.str "sync")) mNil)) (mTup (mCons (mC (.str "cut")) (mCons (mCall g__law_fates (mCons (mVar 0) (mCons (mCall cLen (mCons (mBin fIx (mVar 3) (mC (.int 2))) mNil)) mNil))) mNil)))))) (mIfS (mTst (mBin fIs (mCall g__law_answer (mCons (mVar 1) (mCons (mCall cTuple (mCons (mBin fIx (mVar 3) (mC (.int 1))) mNil)) mNil))) (mC .none))) mBreak (mSeq (mSet 8 (mCall g__law_take (mCons (mVar 0) (mCons (mBin fAdd (mCall cLen (mCons (mCall g__law_mending (mCons (mVar 1) (mCons (mBin fIx (mVar 3) (mC (.int 1))) mNil))) mNil)) (mC (.int 1))) mNil)))) (mSet 7 (mIf (mTst (mBin fLt (mVar 6) (mC (.int 5)))) (mTup (mCons (mC (.str "wake")) mNil)) (mTup (mCons (mC (.str "mend")) (mCons (mVar 8) (mCons (mCall g__law_fates (mCons (mVar 0) (mCons (mVar 8) mNil))) mNil))))))))) (mSeq (mIfS (mtNot (mTst (mCall g__law_went (mCons (mVar 1) (mCons (mVar 3) (mCons (mVar 7) mNil)))))) mBreak mNext) (mDrop (mAppend (mVar 4) (mVar 7))))))
      (rng 0 12) (fun i => .d (.int i)) (fun p δ' S' => ∃ g L t' x5 x6 x7 x8, δ' = [some (.ref n0), some (.d (eF F)), some (.d (.int 12)), some (.ref ng), some (.ref fd), x5, x6, x7, x8] ∧ DrI F S n0 ng fd (k + 20 * p.length) S' g L t' ∧ L.length ≤ p.length) (fun δ' S' => ∃ g L t' x5 x6 x7 x8, δ' = [some (.ref n0), some (.d (eF F)), some (.d (.int 12)), some (.ref ng), some (.ref fd), x5, x6, x7, x8] ∧ DrI F S n0 ng fd (k + 1000) S' g L t' ∧ L.length ≤ 12) (fun _ _ => False)
      (src_range1 rfl ⟨by omega, by omega⟩) (fun _ _ _ _ => trivial) (by
        rintro p i r δ1 S1 hx ⟨g, L, t1, x5, x6, x7, x8, rfl, hI, hLp⟩
        have hpl : p.length < (rng 0 12).length := by rw [hx]; simp
        rw [rng_length] at hpl
        have hpl2 : p.length < 12 := by omega
        refine ⟨_, rfl, ?_⟩
        obtain ⟨kind, t2, e2, ok2, k0, k1⟩ := v_take (r := 8) (hI.tin ln) hI.tok (by omega) (by omega) (by omega)
        have hI2 := hI.draw ln hS0 ok2
        have tk : ∀ {a : MS}, mSeq (mSet 6 (mCall g__law_take (mCons (mVar 0) (mCons (mC (.int 8)) mNil)))) a [some (.ref n0), some (.d (eF F)), some (.d (.int 12)), some (.ref ng), some (.ref fd), some (.d (.int i)), x6, x7, x8] S1 = a [some (.ref n0), some (.d (eF F)), some (.d (.int 12)), some (.ref ng), some (.ref fd), some (.d (.int i)), some (.d (.int kind)), x7, x8] (S1.set n0 (tl t2)) := fun {a} => mSeq_nx (mSet_v (cl rfl e2))
        generalize hS2 : S1.set n0 (tl t2) = S2 at hI2 tk
        -- the end of a turn
        have tail : ∀ (e : Ev) (S3 : Sto) (t3 : Tin) (y8 : Option Wv), EvOk e → DrI F S n0 ng fd (k + 20 * p.length + 20) S3 g L t3 →
            (∃ δ' S', mSeq (mIfS (mtNot (mTst (mCall g__law_went (mCons (mVar 1) (mCons (mVar 3) (mCons (mVar 7) mNil)))))) mBreak mNext) (mDrop (mAppend (mVar 4) (mVar 7))) [some (.ref n0), some (.d (eF F)), some (.d (.int 12)), some (.ref ng), some (.ref fd), some (.d (.int i)), some (.d (.int kind)), some (.d (eE e)), y8] S3 = some (Fl.nx δ', S') ∧ ∃ g L t' x5 x6 x7 x8, δ' = [some (.ref n0), some (.d (eF F)), some (.d (.int 12)), some (.ref ng), some (.ref fd), x5, x6, x7, x8] ∧ DrI F S n0 ng fd (k + 20 * (p ++ [i]).length) S' g L t' ∧ L.length ≤ (p ++ [i]).length) ∨
            (∃ δ' S', mSeq (mIfS (mtNot (mTst (mCall g__law_went (mCons (mVar 1) (mCons (mVar 3) (mCons (mVar 7) mNil)))))) mBreak mNext) (mDrop (mAppend (mVar 4) (mVar 7))) [some (.ref n0), some (.d (eF F)), some (.d (.int 12)), some (.ref ng), some (.ref fd), some (.d (.int i)), some (.d (.int kind)), some (.d (eE e)), y8] S3 = some (Fl.bk δ', S') ∧ ∃ g L t' x5 x6 x7 x8, δ' = [some (.ref n0), some (.d (eF F)), some (.d (.int 12)), some (.ref ng), some (.ref fd), x5, x6, x7, x8] ∧ DrI F S n0 ng fd (k + 1000) S' g L t' ∧ L.length ≤ 12) := by
          intro e S3 t3 y8 hev hI3
          obtain ⟨w1, w2⟩ := v_went h hI3.go.len hI3.go.w hI3.go.wl (by have := hI3.gk; omega) hI3.ga e hev
          cases ew : wentN F g e with
          | none =>
            refine .inr ⟨[some (.ref n0), some (.d (eF F)), some (.d (.int 12)), some (.ref ng), some (.ref fd), some (.d (.int i)), some (.d (.int kind)), some (.d (eE e)), y8], S3, ?_, g, L, t3, some (.d (.int i)), some (.d (.int kind)), some (.d (eE e)), y8, rfl, ⟨hI3.beh, hI3.go, hI3.gk, hI3.ev, hI3.ga, hI3.fdw, hI3.pre, hI3.tok.mono (by omega)⟩, by omega⟩
            have : mIfS (mtNot (mTst (mCall g__law_went (mCons (mVar 1) (mCons (mVar 3) (mCons (mVar 7) mNil)))))) mBreak mNext [some (.ref n0), some (.d (eF F)), some (.d (.int 12)), some (.ref ng), some (.ref fd), some (.d (.int i)), some (.d (.int kind)), some (.d (eE e)), y8] S3 = some (Fl.bk [some (.ref n0), some (.d (eF F)), some (.d (.int 12)), some (.ref ng), some (.ref fd), some (.d (.int i)), some (.d (.int kind)), some (.d (eE e)), y8], S3) := (mIfS_t (mtNot_b (p := false) (mTst_b (cl rfl (w2 ew))))).trans rfl
            unfold mSeq
            rw [this]
            rfl
          | some g' =>
            obtain ⟨S4, e4, hga', p4⟩ := w1 g' ew
            obtain ⟨o1, o2⟩ := wentN_ok h hI3.go ew
            have fd4 : S4[fd]? = some (evw L) := (p4.2 fd (.inr rfl)).trans hI3.fdw
            have lL : (evw L).length = L.length := by unfold evw; simp
            have sn : evw L ++ [.d (eE e)] = evw (L ++ [e]) := by unfold evw; simp
            have lf := get_lt fd4
            refine .inl ⟨_, S4.set fd (evw (L ++ [e])), seq ((mIfS_f (mtNot_b (p := true) (mTst_b (cl rfl e4)))).trans rfl) (mDrop_v ((mAppend_v rfl rfl fd4 (by rw [lL]; omega)).trans (by rw [sn]))), g', L ++ [e], t3, _, _, _, _, rfl, ⟨by rw [behindG_snoc, hI3.beh]; exact ew, o1, by rw [List.length_append, List.length_singleton]; have := hI3.gk; omega, fun x hx => ?_, hga'.setq (.inr rfl) (by unfold evw; exact ok_data _ eE _), List.getElem?_set_self lf, ?_, hI3.tok.mono (by rw [List.length_append, List.length_singleton]; omega)⟩, by rw [List.length_append, List.length_append, List.length_singleton]; exact Nat.add_le_add_right hLp 1⟩
            · rcases List.mem_append.mp hx with hx | hx
              · exact hI3.ev x hx
              · rw [List.mem_singleton.mp hx]; exact hev
            · refine ⟨by have a := hI3.pre.1; have b := p4.1; simp only [List.length_set] at a ⊢; omega, fun j hj => ?_⟩
              rw [List.getElem?_set_ne (by omega), p4.2 j (.inl hj)]
              exact hI3.pre.2 j hj
        obtain ⟨okg, i1, i2, nt, b, hA⟩ := id hI2.ga
        have c7 : ∀ x7 x8, mTst (mBin fIx (mVar 3) (mC (.int 7))) [some (.ref n0), some (.d (eF F)), some (.d (.int 12)), some (.ref ng), some (.ref fd), some (.d (.int i)), some (.d (.int kind)), x7, x8] S2 = some (g.aw, S2) := fun x7 x8 => mTst_b (mBin_v rfl rfl (fIx_ref hA.gn (k := 7) rfl rfl))
        have ck : ∀ x7 x8 S', mTst (mBin fLt (mVar 6) (mC (.int 5))) [some (.ref n0), some (.d (eF F)), some (.d (.int 12)), some (.ref ng), some (.ref fd), some (.d (.int i)), some (.d (.int kind)), x7, x8] S' = some (decide (kind < 5), S') := fun x7 x8 S' => mTst_b rfl
        have ck5 : ∀ x7 x8 S', mTst (mBin fEq (mVar 6) (mC (.int 5))) [some (.ref n0), some (.d (eF F)), some (.d (.int 12)), some (.ref ng), some (.ref fd), some (.d (.int i)), some (.d (.int kind)), x7, x8] S' = some (decide (kind = 5), S') := fun x7 x8 S' => mTst_b (mBin_v rfl rfl (fEq_int _ _))
        -- the turn, its event known
        have turn : ∀ (e : Ev) (S3 : Sto) (t3 : Tin) (y8 : Option Wv) (A : MS), EvOk e → DrI F S n0 ng fd (k + 20 * p.length + 20) S3 g L t3 → A [some (.ref n0), some (.d (eF F)), some (.d (.int 12)), some (.ref ng), some (.ref fd), some (.d (.int i)), some (.d (.int kind)), x7, x8] S2 = some (Fl.nx [some (.ref n0), some (.d (eF F)), some (.d (.int 12)), some (.ref ng), some (.ref fd), some (.d (.int i)), some (.d (.int kind)), some (.d (eE e)), y8], S3) → True := fun _ _ _ _ _ _ _ _ => trivial
        cases haw : g.aw with
        | true =>
          have c7' := c7 x7 x8
          rw [haw] at c7'
          obtain ⟨e, S3, t3, hev, hI3, e3⟩ : ∃ (e : Ev) (S3 : Sto) (t3 : Tin), EvOk e ∧ DrI F S n0 ng fd (k + 20 * p.length + 20) S3 g L t3 ∧ mIf (mTst (mBin fLt (mVar 6) (mC (.int 5)))) (mTup (mCons (mC (.str "write")) (mCons (mCall g__law_note (mCons (mVar 0) mNil)) mNil))) (mIf (mTst (mBin fEq (mVar 6) (mC (.int 5)))) (mTup (mCons (mC (.str "sync")) mNil)) (mTup (mCons (mC (.str "cut")) (mCons (mCall g__law_fates (mCons (mVar 0) (mCons (mCall cLen (mCons (mBin fIx (mVar 3) (mC (.int 2))) mNil)) mNil))) mNil)))) [some (.ref n0), some (.d (eF F)), some (.d (.int 12)), some (.ref ng), some (.ref fd), some (.d (.int i)), some (.d (.int kind)), x7, x8] S2 = some (.d (eE e), S3) := by
            by_cases q : kind < 5
            · obtain ⟨nn, t3, e3, ok3⟩ := v_note (hI2.tin ln) hI2.tok (by omega)
              exact ⟨.write nn, _, t3, trivial, hI2.draw ln hS0 (ok3.mono (by omega)), (mIf_t ((ck _ _ _).trans (by rw [decide_eq_true q]))).trans (mTup_2 rfl (cl rfl e3))⟩
            · by_cases q2 : kind = 5
              · exact ⟨.sync, S2, t2, trivial, ⟨hI2.beh, hI2.go, hI2.gk, hI2.ev, hI2.ga, hI2.fdw, hI2.pre, hI2.tok.mono (by omega)⟩, (mIf_f ((ck _ _ _).trans (by rw [decide_eq_false q]))).trans ((mIf_t ((ck5 _ _ _).trans (by rw [decide_eq_true q2]))).trans rfl)⟩
              · have lw : (ww g.ws).length = g.ws.length := by unfold ww; simp
                have hwl := hI2.go.wl
                obtain ⟨fs, t3, e3, ok3, hfl⟩ := v_fates (m := g.ws.length) (hI2.tin ln) hI2.tok (by omega) (by omega)
                exact ⟨.cut fs, _, t3, (show fs.length < 1000 by omega), hI2.draw ln hS0 (ok3.mono (by omega)), (mIf_f ((ck _ _ _).trans (by rw [decide_eq_false q]))).trans ((mIf_f ((ck5 _ _ _).trans (by rw [decide_eq_false q2]))).trans (mTup_2 rfl (cl (mCons_v rfl (mCons_v ((cl (mCons_v (mBin_v rfl rfl (fIx_ref hA.gn (k := 2) rfl rfl)) rfl) (cLen_ref hA.g2)).trans (by rw [lw])) rfl)) e3)))⟩
          have mid : ∀ {a : MS} {B : MS} , mSeq (mIfS (mTst (mBin fIx (mVar 3) (mC (.int 7)))) (mSet 7 (mIf (mTst (mBin fLt (mVar 6) (mC (.int 5)))) (mTup (mCons (mC (.str "write")) (mCons (mCall g__law_note (mCons (mVar 0) mNil)) mNil))) (mIf (mTst (mBin fEq (mVar 6) (mC (.int 5)))) (mTup (mCons (mC (.str "sync")) mNil)) (mTup (mCons (mC (.str "cut")) (mCons (mCall g__law_fates (mCons (mVar 0) (mCons (mCall cLen (mCons (mBin fIx (mVar 3) (mC (.int 2))) mNil)) mNil))) mNil)))))) B) a [some (.ref n0), some (.d (eF F)), some (.d (.int 12)), some (.ref ng), some (.ref fd), some (.d (.int i)), some (.d (.int kind)), x7, x8] S2 = a [some (.ref n0), some (.d (eF F)), some (.d (.int 12)), some (.ref ng), some (.ref fd), some (.d (.int i)), some (.d (.int kind)), some (.d (eE e)), x8] S3 := fun {a B} => mSeq_nx ((mIfS_t c7').trans (mSet_v e3))
          rcases tail e S3 t3 x8 hev hI3 with ⟨δ', S', e4, r4⟩ | ⟨δ', S', e4, r4⟩
          · exact .inl ⟨δ', S', tk.trans (mid.trans e4), r4⟩
          · exact .inr (.inl ⟨δ', S', tk.trans (mid.trans e4), r4⟩)
        | false =>
          have c7' := c7 x7 x8
          rw [haw] at c7'
          have cans : mTst (mBin fIs (mCall g__law_answer (mCons (mVar 1) (mCons (mCall cTuple (mCons (mBin fIx (mVar 3) (mC (.int 1))) mNil)) mNil))) (mC .none)) [some (.ref n0), some (.d (eF F)), some (.d (.int 12)), some (.ref ng), some (.ref fd), some (.d (.int i)), some (.d (.int kind)), x7, x8] S2 = some (isNon (.d (eO (answerG F g.P))), S2) :=
            mTst_b (mBin_v (cl (mCons_v rfl (mCons_v (cl (mCons_v (mBin_v rfl rfl (fIx_ref hA.gn (k := 1) rfl rfl)) rfl) (tuple_ref_pic hA.g1)) rfl)) (v_answer okg h hI2.go.len (.inl rfl))) rfl rfl)
          cases ha : answerG F g.P with
          | none =>
            rw [ha] at cans
            refine .inr (.inl ⟨[some (.ref n0), some (.d (eF F)), some (.d (.int 12)), some (.ref ng), some (.ref fd), some (.d (.int i)), some (.d (.int kind)), x7, x8], S2, tk.trans ?_, g, L, t2, some (.d (.int i)), some (.d (.int kind)), x7, x8, rfl, ⟨hI2.beh, hI2.go, hI2.gk, hI2.ev, hI2.ga, hI2.fdw, hI2.pre, hI2.tok.mono (by omega)⟩, by omega⟩)
            have : ∀ {A B : MS}, mIfS (mTst (mBin fIx (mVar 3) (mC (.int 7)))) A (mIfS (mTst (mBin fIs (mCall g__law_answer (mCons (mVar 1) (mCons (mCall cTuple (mCons (mBin fIx (mVar 3) (mC (.int 1))) mNil)) mNil))) (mC .none))) mBreak B) [some (.ref n0), some (.d (eF F)), some (.d (.int 12)), some (.ref ng), some (.ref fd), some (.d (.int i)), some (.d (.int kind)), x7, x8] S2 = some (Fl.bk [some (.ref n0), some (.d (eF F)), some (.d (.int 12)), some (.ref ng), some (.ref fd), some (.d (.int i)), some (.d (.int kind)), x7, x8], S2) := fun {A B} => (mIfS_f c7').trans ((mIfS_t cans).trans rfl)
            unfold mSeq
            rw [this]
            rfl
          | some a =>
            rw [ha] at cans
            have hml := mendN_len (F := F) g.P a
            have hmend : mCall g__law_mending (mCons (mVar 1) (mCons (mBin fIx (mVar 3) (mC (.int 1))) mNil)) [some (.ref n0), some (.d (eF F)), some (.d (.int 12)), some (.ref ng), some (.ref fd), some (.d (.int i)), some (.d (.int kind)), x7, x8] S2 = some (.d (.list ((mendN F g.P a).map eW)), S2) := cl (mCons_v rfl (mCons_v (mBin_v rfl rfl (fIx_ref hA.gn (k := 1) rfl rfl)) rfl)) (v_mending okg h hI2.go.len hA.face ha)
            obtain ⟨v, t3, e3, ok3, v0, v1⟩ := v_take (r := ((mendN F g.P a).length : Nat) + 1) (hI2.tin ln) hI2.tok (by omega) (by omega) (by omega)
            have hI3 := hI2.draw ln hS0 ok3
            generalize hS3 : S2.set n0 (tl t3) = S3 at hI3 e3
            have e8 : mSet 8 (mCall g__law_take (mCons (mVar 0) (mCons (mBin fAdd (mCall cLen (mCons (mCall g__law_mending (mCons (mVar 1) (mCons (mBin fIx (mVar 3) (mC (.int 1))) mNil))) mNil)) (mC (.int 1))) mNil))) [some (.ref n0), some (.d (eF F)), some (.d (.int 12)), some (.ref ng), some (.ref fd), some (.d (.int i)), some (.d (.int kind)), x7, x8] S2 = some (Fl.nx [some (.ref n0), some (.d (eF F)), some (.d (.int 12)), some (.ref ng), some (.ref fd), some (.d (.int i)), some (.d (.int kind)), x7, some (.d (.int v))], S3) :=
              mSet_v (cl (mCons_v rfl (mCons_v (mBin_v (w1 := .d (.int ((mendN F g.P a).length : Nat))) ((cl (mCons_v hmend rfl) (cLen_list _)).trans (by rw [List.length_map])) rfl rfl) rfl)) e3)
            obtain ⟨e, S4, t4, hev, hI4, e4⟩ : ∃ (e : Ev) (S4 : Sto) (t4 : Tin), EvOk e ∧ DrI F S n0 ng fd (k + 20 * p.length + 20) S4 g L t4 ∧ mIf (mTst (mBin fLt (mVar 6) (mC (.int 5)))) (mTup (mCons (mC (.str "wake")) mNil)) (mTup (mCons (mC (.str "mend")) (mCons (mVar 8) (mCons (mCall g__law_fates (mCons (mVar 0) (mCons (mVar 8) mNil))) mNil)))) [some (.ref n0), some (.d (eF F)), some (.d (.int 12)), some (.ref ng), some (.ref fd), some (.d (.int i)), some (.d (.int kind)), x7, some (.d (.int v))] S3 = some (.d (eE e), S4) := by
              by_cases q : kind < 5
              · exact ⟨.wake, S3, t3, trivial, ⟨hI3.beh, hI3.go, hI3.gk, hI3.ev, hI3.ga, hI3.fdw, hI3.pre, hI3.tok.mono (by omega)⟩, (mIf_t ((ck _ _ _).trans (by rw [decide_eq_true q]))).trans rfl⟩
              · obtain ⟨fs, t4, e4, ok4, hfl⟩ := v_fates (m := v.toNat) (hI3.tin ln) hI3.tok (by omega) (by omega)
                have ev : ((v.toNat : Nat) : Int) = v := by omega
                rw [ev] at e4
                exact ⟨.mend v fs, _, t4, (show fs.length < 1000 by omega), hI3.draw ln hS0 (ok4.mono (by omega)), (mIf_f ((ck _ _ _).trans (by rw [decide_eq_false q]))).trans (mTup_3 rfl rfl (cl rfl e4))⟩
            have mid : ∀ {a : MS} {A : MS}, mSeq (mIfS (mTst (mBin fIx (mVar 3) (mC (.int 7)))) A (mIfS (mTst (mBin fIs (mCall g__law_answer (mCons (mVar 1) (mCons (mCall cTuple (mCons (mBin fIx (mVar 3) (mC (.int 1))) mNil)) mNil))) (mC .none))) mBreak (mSeq (mSet 8 (mCall g__law_take (mCons (mVar 0) (mCons (mBin fAdd (mCall cLen (mCons (mCall g__law_mending (mCons (mVar 1) (mCons (mBin fIx (mVar 3) (mC (.int 1))) mNil))) mNil)) (mC (.int 1))) mNil)))) (mSet 7 (mIf (mTst (mBin fLt (mVar 6) (mC (.int 5)))) (mTup (mCons (mC (.str "wake")) mNil)) (mTup (mCons (mC (.str "mend")) (mCons (mVar 8) (mCons (mCall g__law_fates (mCons (mVar 0) (mCons (mVar 8) mNil))) mNil))))))))) a [some (.ref n0), some (.d (eF F)), some (.d (.int 12)), some (.ref ng), some (.ref fd), some (.d (.int i)), some (.d (.int kind)), x7, x8] S2 = a [some (.ref n0), some (.d (eF F)), some (.d (.int 12)), some (.ref ng), some (.ref fd), some (.d (.int i)), some (.d (.int kind)), some (.d (eE e)), some (.d (.int v))] S4 := fun {a A} => mSeq_nx ((mIfS_f c7').trans ((mIfS_f cans).trans (seq e8 (mSet_v e4))))
            rcases tail e S4 t4 (some (.d (.int v))) hev hI4 with ⟨δ', S', e5, r5⟩ | ⟨δ', S', e5, r5⟩
            · exact .inl ⟨δ', S', tk.trans (mid.trans e5), r5⟩
            · exact .inr (.inl ⟨δ', S', tk.trans (mid.trans e5), r5⟩)) ⟨_, [], t, none, none, none, none, rfl, start, Nat.le_refl _⟩ with ⟨δ', S', e, hh⟩ | ⟨w, S', e, hh⟩
    · refine ⟨δ', S', e, ?_⟩
      rcases hh with ⟨g, L, t', x5, x6, x7, x8, rfl, hI, hl⟩ | hh
      · rw [rng_length] at hI hl
        exact ⟨g, L, t', x5, x6, x7, x8, rfl, ⟨hI.beh, hI.go, hI.gk, hI.ev, hI.ga, hI.fdw, hI.pre, hI.tok.mono (by omega)⟩, by omega⟩
      · exact hh
    · exact hh.elim
  obtain ⟨g, L, t', x5, x6, x7, x8, rfl, hI, hl⟩ := hh
  refine ⟨L, g.P, t', ?_, hI.tok, by unfold behindN; rw [hI.beh]; rfl, hI.ev, hl⟩
  have hp : Pre (fun i => i < (S.set n0 (tl t')).length) (S.set n0 (tl t')) S2 := ⟨hI.pre.1, fun i hi => hI.pre.2 i (by simpa using hi)⟩
  have sp := pre_split hp
  refine trim_d (S1 := S.set n0 (tl t')) (T := S2.drop (S.set n0 (tl t')).length) ?_ (by simp) ok.tin
  rw [← sp]
  exact sem_rt ((first _).trans (seq e2 (fin S2 g L t' _ _ _ _ hI)))
end
end K15
set_option Elab.async false
set_option linter.all false
set_option maxRecDepth 100000
set_option maxHeartbeats 4000000
set_option autoImplicit false
namespace K15
open PySem PySem.Spec PyProof.Rows L2
/-- what the plain functions keep: proved apart -/
structure Mth (F : Fm) : Prop where
  bars : ∀ P s, PicOk F P → barsG F P s = barsN F P s
  reas : ∀ P ws, PicOk F P → isReasonG F P ws = isReasonN F P ws
  why : ∀ P, PicOk F P → canN F P = false → isReasonN F P (reasonN F P) = true
  life : ∀ P L, PicOk F P → isLifeN F P L = decide (behindN F L = some P)
  to : ∀ P i, PicOk F P → firstN F P = some i → behindN F (toLife F P i) = some P
  lie : ∀ P L, behindN F L = some P → canN F P = true ∧ PicOk F P
def eIT (l : List Int) : PyData := .tuple (eIs l)
theorem shp_eIT (l : List Int) : shp 1 (eIT l) := shp_tup (shp_eIs l)
theorem nest_int_tup (l : List Int) (h : l.length < 1000000) : Nest 1 (eIT l) := .tuple 0 _ (by unfold eIs; simpa using h) fun x hx => by
  obtain ⟨i, _, rfl⟩ := List.mem_map.mp hx
  exact .int 0 i
theorem eP_inj {P Q : Pic} (h : eP P = eP Q) : P = Q := by
  have := eqv_P P Q
  rw [h, eqv_P, decide_eq_true rfl] at this
  exact of_decide_eq_true this.symm
theorem nest_note (n : Note) : Nest 1 (eN n) := by
  cases n <;> exact .tuple 0 _ (by simp) (fun x hx => by
    simp only [List.mem_cons, List.not_mem_nil, or_false] at hx
    first
      | (rcases hx with rfl | rfl | rfl | rfl | rfl <;> first | exact .str _ _ | exact .int _ _)
      | (rcases hx with rfl | rfl | rfl | rfl <;> first | exact .str _ _ | exact .int _ _)
      | (subst hx; exact .str _ _))
theorem nest_C (x : Cell) : Nest 2 (eC x) := by
  cases x with
  | none =>
    refine .tuple 1 _ (by simp) fun x hx => ?_
    rw [List.mem_singleton.mp hx]
    exact .str _ _
  | some x =>
    refine .tuple 1 _ (by simp) fun y hy => ?_
    simp only [List.mem_cons, List.not_mem_nil, or_false] at hy
    rcases hy with rfl | rfl
    · exact .int _ _
    · exact nest_note _
theorem nest_P (P : Pic) (h : P.length < 1000000) : Nest 3 (eP P) := .tuple 2 _ (by simpa using h) fun x hx => by
  obtain ⟨y, _, rfl⟩ := List.mem_map.mp hx
  exact nest_C y
section
variable {S S1 : Sto} {δ δ' : DEnv} {F : Fm} {P : Pic} {w : Wv}
theorem bools_same {bs : List Bool} {ys : List PyData} : True := trivial
theorem nest_bools (bs : List Bool) : ∀ y ∈ bs.map PyData.bool, Nest 10 y ∧ shp 60 y := fun y hy => by
  obtain ⟨b, _, rfl⟩ := List.mem_map.mp hy
  exact ⟨.bl _ _, (shp_bool b).mono (by omega)⟩
theorem same_bools {w2 : Wv} {bs : List Bool} (h2 : Seqd w2 false (bs.map .bool) S) (hl : bs.length < 1000000) : g__law_same [.d (.list (bs.map .bool)), w2] S = some (.d (.bool true), S) := by
  obtain ⟨b, e, hb⟩ := v_same_seq (S := S) seqd_list h2 (by simpa using hl) (nest_bools bs) fun x hx => (nest_bools bs x hx).2
  rw [hb.mpr rfl] at e
  exact e
theorem in_nilT_v (L : List (List Int)) : fInB false (.d (.tuple [])) (.d (.list (L.map eIT))) S = some (.d (.bool (L.any fun l => decide (l = []))), S) := by
  have s1 : SeqAt.shaped (.tuple []) = true := (shp_eIT []).sh
  have s2 : SeqAt.shaped (.list (L.map eIT)) = true := (shp_list (k := 1) fun x hx => by
    obtain ⟨l, _, rfl⟩ := List.mem_map.mp hx
    exact shp_eIT l).sh
  show (if (SeqAt.shaped (.tuple []) && SeqAt.shaped (.list (L.map eIT))) = true then some (Wv.d (.bool (false ^^ (L.map eIT).any fun z => PyData.eqv z (.tuple []))), S) else none) = _
  rw [s1, s2, if_pos (show (true && true) = true from rfl), List.any_map]
  have : ((fun z => PyData.eqv z (.tuple [])) ∘ eIT) = fun l : List Int => decide (l = []) := by
    funext l
    show PyData.eqv (.tuple (eIs l)) (.tuple (eIs [])) = _
    rw [eqv_tup, eqvAll_ints]
  rw [this]
  simp
def canNot : PyData := .list [.str "can not", .bool true]
theorem same_canNot : g__law_same [.d canNot, .d canNot] S = some (.d (.bool true), S) := by
  refine v_same_refl ((Nest.list 0 _ (by simp) fun x hx => ?_).mono (by omega)) ((shp_list (k := 0) fun x hx => ?_).mono (by omega))
  · simp only [List.mem_cons, List.not_mem_nil, or_false] at hx
    rcases hx with rfl | rfl
    · exact .str _ _
    · exact .bl _ _
  · simp only [List.mem_cons, List.not_mem_nil, or_false] at hx
    rcases hx with rfl | rfl
    · exact shp_s _ (by decide +kernel)
    · exact shp_bool _
theorem same_bool (b : Bool) : g__law_same [.d (.bool b), .d (.bool b)] S = some (.d (.bool true), S) := v_same_refl (.bl _ b) ((shp_bool b).mono (by omega))
/-- the face behind, against a face -/
theorem same_behind (h : F.Ok) (hp : PicOk F P) (o : Option Pic) : g__law_same [.d (eOP o), .d (eP P)] S = some (.d (.bool (decide (o = some P))), S) := by
  have h6 := h.c6
  have hl := hp.len
  have sx : shp 60 (eOP o) := by
    cases o with
    | none => exact shp_none.mono (by omega)
    | some Q => exact (shp_P Q).mono (by omega)
  obtain ⟨b, e, hb⟩ := v_same (S := S) (x := eOP o) (y := eP P) ((nest_P P (by omega)).mono (by omega)) ((shp_P P).mono (by omega)) sx
  have : b = decide (o = some P) := by
    rw [Bool.eq_iff_iff, hb, decide_eq_true_iff]
    cases o with
    | none => exact ⟨fun z => (by cases z), fun z => (by cases z)⟩
    | some Q => exact ⟨fun z => (by rw [eP_inj z]), fun z => (by cases z; rfl)⟩
  rw [this] at e
  exact e
inductive Th where
  | tup (ws : List Int) | lst (ws : List Int) | non
def eTh : Th → PyData
  | .tup ws => .tuple (eIs ws)
  | .lst ws => .list (eIs ws)
  | .non => .none
def thN (F : Fm) (P : Pic) : Th → Bool
  | .tup ws => isReasonN F P ws
  | _ => false
theorem v_isr_th (ok : OkS S) (h : F.Ok) (hp : PicOk F P) (x : Th) (hx : ∀ ws, x = .tup ws → ws.length < 1000) : g_is_reason [.d (eF F), .d (eP P), .d (eTh x)] S = some (.d (.bool (thN F P x)), S) := by
  cases x with
  | tup ws => exact v_is_reason_of ok h hp.len (v_sure_both h hp) ws (hx ws rfl)
  | lst ws => exact v_is_reason_list ok h hp.len (v_sure_both h hp) _ rfl
  | non => exact v_is_reason_list ok h hp.len (v_sure_both h hp) _ rfl
theorem v_lisr_th (M : Mth F) (ok : OkS S) (h : F.Ok) (hp : PicOk F P) (x : Th) (hx : ∀ ws, x = .tup ws → ws.length < 1000) : g__law_is_reason [.d (eF F), .d (eP P), .d (eTh x)] S = some (.d (.bool (thN F P x)), S) := by
  cases x with
  | tup ws =>
    refine (v_lis_reason ok h hp.len (.inl rfl) ws (hx ws rfl)).trans ?_
    rw [M.reas P ws hp]
    rfl
  | lst ws => exact v_lis_reason_other _ rfl
  | non => exact v_lis_reason_other _ rfl
inductive Lh where
  | tup (L : List Ev) | lst (ds : List PyData)
def eLh : Lh → PyData
  | .tup L => eL L
  | .lst ds => .list ds
def lhN (F : Fm) (P : Pic) : Lh → Bool
  | .tup L => decide (behindN F L = some P)
  | _ => false
theorem cut_tup (a b : ME) {ds : List PyData} {i : Int} {k : Nat} (h1 : a δ S = some (.d (.tuple ds), S)) (h2 : b δ S = some (.d (.int i), S)) (hi : i = k) : mSl a mNo (mPart b) δ S = some (.d (.tuple (ds.take k)), S) ∧ mSl a (mPart b) mNo δ S = some (.d (.tuple (ds.drop k)), S) := by
  subst hi
  constructor
  · unfold mSl mPart mNo
    rw [h1, Option.bind_some, Option.bind_some, h2, Option.bind_some, Option.bind_some]
    show fSl _ _ _ _ = _
    rw [fSl_tup, cutG_take]
  · unfold mSl mPart mNo
    rw [h1, Option.bind_some, h2, Option.bind_some, Option.bind_some, Option.bind_some]
    show fSl _ _ _ _ = _
    rw [fSl_tup, cutG_drop]
theorem add_tup {a b : ME} {xs ys : List PyData} (h1 : a δ S = some (.d (.tuple xs), S)) (h2 : b δ S = some (.d (.tuple ys), S)) (hl : xs.length + ys.length ≤ 1000000) : mBin fAdd a b δ S = some (.d (.tuple (xs ++ ys)), S) := by
  refine mBin_v h1 h2 ?_
  unfold fAdd
  dsimp only
  rw [if_pos hl]
end
end K15
set_option Elab.async false
set_option linter.all false
set_option maxRecDepth 100000
set_option maxHeartbeats 4000000
set_option autoImplicit false
namespace K15
open PySem PySem.Spec PyProof.Rows L2
section
variable {S S1 : Sto} {δ δ' : DEnv} {F : Fm} {P : Pic} {w : Wv}
theorem bool_w2 (bs : List Bool) : bs.map (fun b => Wv.d (.bool b)) = (bs.map PyData.bool).map .d := by rw [List.map_map]; rfl
theorem toLife_len (h : F.Ok) {i : Nat} (hi : (i : Int) < F.t) : (toLife F P i).length ≤ 60 ∧ 2 ≤ (toLife F P i).length ∧ ((toLife F P i).length : Int) ≤ ((F.m : Int) + 1) * F.c + F.d + 1 := by
  have ht := h.tle
  have h6 := h.c6
  have hdc := h.dc
  have e1 : ((F.m : Int) + 1) * F.c = F.t + F.c := by unfold Fm.t; rw [Int.add_mul, Int.one_mul, Int.mul_comm]
  rw [e1]
  have hm : 0 ≤ manyN F i ∧ manyN F i ≤ F.t + F.c - 1 := by unfold manyN; split <;> omega
  have : (toLife F P i).length = (manyN F i).toNat + 1 + F.d + 1 := by
    unfold toLife
    simp only [List.length_append, List.length_map, rng_length, List.length_singleton]
    omega
  rw [this]
  omega
theorem toLife_ev (h : F.Ok) {i : Nat} : ∀ e ∈ toLife F P i, EvOk e := fun e he => by
  have h6 := h.c6
  have hdc := h.dc
  unfold toLife at he
  simp only [List.mem_append, List.mem_map, List.mem_singleton] at he
  rcases he with ((⟨n, _, rfl⟩ | rfl) | ⟨n, _, rfl⟩) | rfl
  · trivial
  · trivial
  · trivial
  · show List.length _ < 1000
    rw [List.length_map, rng_length]
    omega
theorem v_ilt_th (M : Mth F) (ok : OkS S) (h : F.Ok) (hp : PicOk F P) (x : Lh) (hx : ∀ L, x = .tup L → ∀ e ∈ L, EvOk e) : g_is_life_to [.d (eF F), .d (eP P), .d (eLh x)] S = some (.d (.bool (lhN F P x)), S) := by
  cases x with
  | tup L =>
    refine (v_is_life_to_of ok h (v_sure_both h hp) L (hx L rfl)).trans ?_
    rw [M.life P L hp]
    rfl
  | lst ds => exact v_is_life_to_list (v_sure_both h hp) ds
theorem v_judged {n k : Nat} {t : Tin} (M : Mth F) (ok : OkS S) (h : F.Ok) (hp : PicOk F P) (hn : S[n]? = some (tl t)) (ht : TOk k t) (hk : k + 10 < 1000000000) :
    ∃ t', g__law_judged_right [.ref n, .d (eF F), .d (eP P)] S = some (.d (.bool true), S.set n (tl t')) ∧ TOk (k + 10) t' := by
  have ln := get_lt hn
  have h6 := h.c6
  have hdc := h.dc
  have htt := h.tle
  have hl := hp.len
  have hal := allN_len F P
  have hT : ((F.t.toNat : Nat) : Int) = F.t := by omega
  -- rows
  have e3 : mSet 3 (mImm (mComp (mRange1 (mBin fMulA (mBin fIx (mVar 1) (mC (.int 0))) (mBin fIx (mVar 1) (mC (.int 2))))) (nName 7) mtYes (mCall g__law_bars (mCons (mVar 1) (mCons (mVar 2) (mCons (mVar 7) mNil)))) [7])) [some (.ref n), some (.d (eF F)), some (.d (eP P)), none, none, none, none, none, none, none, none, none, none] S =
      some (Fl.nx [some (.ref n), some (.d (eF F)), some (.d (eP P)), some (.d (.list ((allN F P).map eIT))), none, none, none, none, none, none, none, none, none], S) := by
    refine mSet_v (mImm_v ((comp_map (rng 0 F.t) (fun i => .d (.int i)) (barsN F P) (fun l => .d (eIT l)) (src_range1 (turn_v h rfl rfl) ⟨by omega, by omega⟩) (by rw [rng_length]; omega) fun x hx => ⟨_, rfl, (cl rfl (v_lbars ok h hl (.inl rfl) x (mem_rng.mp hx).1 (by have := (mem_rng.mp hx).2; omega))).trans (by rw [M.bars P x hp]; rfl)⟩).trans ?_))
    unfold allN
    rw [List.map_map, List.map_map, List.map_map]
    rfl
  have e4 : mSet 4 (mBin (fInB false) (mTup mNil) (mVar 3)) [some (.ref n), some (.d (eF F)), some (.d (eP P)), some (.d (.list ((allN F P).map eIT))), none, none, none, none, none, none, none, none, none] S =
      some (Fl.nx [some (.ref n), some (.d (eF F)), some (.d (eP P)), some (.d (.list ((allN F P).map eIT))), some (.d (.bool (canN F P))), none, none, none, none, none, none, none, none], S) := mSet_v (mBin_v rfl rfl (in_nilT_v _))
  have nestRow : ∀ y ∈ (allN F P).map eIT, Nest 10 y ∧ shp 60 y := fun y hy => by
    obtain ⟨l, hl', rfl⟩ := List.mem_map.mp hy
    have : l.length ≤ F.c := by
      obtain ⟨s, _, rfl⟩ := List.mem_map.mp hl'
      exact barsN_len h P s
    exact ⟨(nest_int_tup l (by omega)).mono (by omega), (shp_eIT l).mono (by omega)⟩
  have e5 : mCall g__law_same (mCons (mImm (mComp (mRange1 (mCall cLen (mCons (mVar 3) mNil))) (nName 7) mtYes (mCall g_bars (mCons (mVar 1) (mCons (mVar 2) (mCons (mVar 7) mNil)))) [7])) (mCons (mVar 3) mNil)) [some (.ref n), some (.d (eF F)), some (.d (eP P)), some (.d (.list ((allN F P).map eIT))), some (.d (.bool (canN F P))), none, none, none, none, none, none, none, none] S = some (.d (.bool true), S) := by
    have rows : mComp (mRange1 (mCall cLen (mCons (mVar 3) mNil))) (nName 7) mtYes (mCall g_bars (mCons (mVar 1) (mCons (mVar 2) (mCons (mVar 7) mNil)))) [7] [some (.ref n), some (.d (eF F)), some (.d (eP P)), some (.d (.list ((allN F P).map eIT))), some (.d (.bool (canN F P))), none, none, none, none, none, none, none, none] S = some (((allN F P).map eIT).map .d, S) := by
      refine (comp_map (rng 0 F.t) (fun i => .d (.int i)) (barsN F P) (fun l => .d (eIT l)) (src_range1 ((cl rfl (cLen_list _)).trans (by rw [List.length_map, hal, hT])) ⟨by omega, by omega⟩) (by rw [rng_length]; omega) fun x hx => ⟨_, rfl, cl rfl (v_bars_of ok h hl (v_sure_both h hp) x (mem_rng.mp hx).1 (mem_rng.mp hx).2)⟩).trans ?_
      unfold allN
      rw [List.map_map, List.map_map, List.map_map]
      rfl
    refine cl (mCons_v (mImm_v rows) (mCons_v rfl rfl)) ?_
    obtain ⟨b, e, hb⟩ := v_same_seq (S := S) (seqd_list (xs := (allN F P).map eIT)) seqd_list (by rw [List.length_map, hal]; omega) nestRow fun x hx => (nestRow x hx).2
    rw [hb.mpr rfl] at e
    exact e
  have e6 : mCall g__law_same (mCons (mCall g_can_lie (mCons (mCall g__law_lists (mCons (mVar 1) mNil)) (mCons (mCall g__law_lists (mCons (mVar 2) mNil)) mNil))) (mCons (mVar 4) mNil)) [some (.ref n), some (.d (eF F)), some (.d (eP P)), some (.d (.list ((allN F P).map eIT))), some (.d (.bool (canN F P))), none, none, none, none, none, none, none, none] S = some (.d (.bool true), S) :=
    cl (mCons_v (cl (mCons_v (cl rfl (v_lists_F F)) (mCons_v (cl rfl (v_lists_P P (by omega))) rfl)) (v_can_lie_of ok h hl (v_sure_bothL h hp))) (mCons_v rfl rfl)) (same_bool _)
  have g1 : ∀ {b : MS}, mSeq (mIfS (mtOr (mtNot (mTst (mCall g__law_same (mCons (mImm (mComp (mRange1 (mCall cLen (mCons (mVar 3) mNil))) (nName 7) mtYes (mCall g_bars (mCons (mVar 1) (mCons (mVar 2) (mCons (mVar 7) mNil)))) [7])) (mCons (mVar 3) mNil))))) (mtNot (mTst (mCall g__law_same (mCons (mCall g_can_lie (mCons (mCall g__law_lists (mCons (mVar 1) mNil)) (mCons (mCall g__law_lists (mCons (mVar 2) mNil)) mNil))) (mCons (mVar 4) mNil)))))) (mRet (mC (.bool false))) mNext) b [some (.ref n), some (.d (eF F)), some (.d (eP P)), some (.d (.list ((allN F P).map eIT))), some (.d (.bool (canN F P))), none, none, none, none, none, none, none, none] S = b [some (.ref n), some (.d (eF F)), some (.d (eP P)), some (.d (.list ((allN F P).map eIT))), some (.d (.bool (canN F P))), none, none, none, none, none, none, none, none] S :=
    fun {b} => guard_f ((mtOr_b (p := false) (mtNot_b (p := true) (mTst_b e5)) fun _ => mtNot_b (p := true) (mTst_b e6)).trans rfl) rfl
  cases hc : canN F P with
  | false =>
    rw [hc] at e4 g1
    have e7 : ∀ {b : MS}, mSeq (mPar 5 6 (mCons (mCall g__law_heard (mCons (mC (.int 0)) (mCons (mVar 1) (mCons (mVar 2) mNil)))) (mCons (mCall g__law_heard (mCons (mC (.int 1)) (mCons (mVar 1) (mCons (mVar 2) mNil)))) mNil))) b [some (.ref n), some (.d (eF F)), some (.d (eP P)), some (.d (.list ((allN F P).map eIT))), some (.d (.bool false)), none, none, none, none, none, none, none, none] S = b [some (.ref n), some (.d (eF F)), some (.d (eP P)), some (.d (.list ((allN F P).map eIT))), some (.d (.bool false)), some (.d canNot), some (.d (.tuple (eIs (reasonN F P)))), none, none, none, none, none, none] S :=
      fun {b} => mSeq_nx (mPar_v (mCons_v (cl rfl (v_heard0_no ok h hp hc)) (mCons_v (cl rfl (v_heard1_yes ok h hp hc)) rfl)))
    have hrl : (reasonN F P).length = F.t.toNat := by unfold reasonN; rw [List.length_map, hal]
    have le : (eIs (reasonN F P)).length = F.t.toNat := by unfold eIs; rw [List.length_map, hrl]
    generalize hW : reasonN F P = W at e7 hrl le
    obtain ⟨v, t1, d1, ok1, v0, v1⟩ := v_take (r := F.t) hn ht (by omega) (by omega) (by omega)
    obtain ⟨u, t2, d2, ok2, u0, u1⟩ := v_take (S := S.set n (tl t1)) (r := (F.c : Nat)) (List.getElem?_set_self ln) ok1 (by omega) (by have := h.c2; omega) (by omega)
    rw [List.set_set] at d2
    have okS2 : OkS (S.set n (tl t2)) := ok.tin
    generalize hS1 : S.set n (tl t1) = S1 at d1 d2
    generalize hS2 : S.set n (tl t2) = S2 at d2 okS2
    have ev : v = ((v.toNat : Nat) : Int) := by omega
    refine ⟨t2, trim_d (S1 := S.set n (tl t2)) (T := []) ?_ (by simp) (by rw [hS2]; exact okS2), ok2.mono (by omega)⟩
    rw [hS2, List.append_nil]
    refine sem_rt ((seq e3 (seq e4 (g1.trans (e7.trans ?_)))))
    refine mIfS_seq_rt (mtNot_b (p := false) (mTst_b rfl)) ?_
    refine (guard_f (p := false) ((mtOr_b (p := false) (mtNot_b (p := true) (mTst_b (cl (mCons_v rfl (mCons_v rfl rfl)) same_canNot))) fun _ => mtNot_b (p := true) (mTst_b ((cl rfl (v_lis_reason ok h hl (.inl rfl) W (by omega))).trans ?_))).trans rfl) rfl).trans ?_
    · rw [M.reas P W hp, ← hW, M.why P hp hc]
    have lenW : mCall cLen (mCons (mVar 6) mNil) [some (.ref n), some (.d (eF F)), some (.d (eP P)), some (.d (.list ((allN F P).map eIT))), some (.d (.bool false)), some (.d canNot), some (.d (.tuple (eIs W))), none, none, none, none, none, none] S = some (.d (.int F.t), S) := by
      refine (show _ = some (Wv.d (.int ((eIs W).length : Nat)), S) from rfl).trans ?_
      rw [le, hT]
    refine seq (mSet_v (cl (mCons_v rfl (mCons_v lenW rfl)) d1)) (seq (mSet_v (cl (mCons_v rfl (mCons_v rfl rfl)) d2)) ?_)
    have sl : ∀ a b : List PyData, a.length ≤ 30 → b.length ≤ 30 → a.length + b.length ≤ 1000000 := fun a b h1 h2 => by omega
    have ct := cut_tup (S := S2) (δ := [some (.ref n), some (.d (eF F)), some (.d (eP P)), some (.d (.list ((allN F P).map eIT))), some (.d (.bool false)), some (.d canNot), some (.d (.tuple (eIs W))), some (.d (.int v)), some (.d (.int u)), none, none, none, none]) (mVar 6) (mVar 7) (ds := eIs W) (k := v.toNat) rfl rfl ev
    have ct1 := cut_tup (S := S2) (δ := [some (.ref n), some (.d (eF F)), some (.d (eP P)), some (.d (.list ((allN F P).map eIT))), some (.d (.bool false)), some (.d canNot), some (.d (.tuple (eIs W))), some (.d (.int v)), some (.d (.int u)), none, none, none, none]) (mVar 6) (mBin fAdd (mVar 7) (mC (.int 1))) (ds := eIs W) (k := v.toNat + 1) (i := v + 1) rfl rfl (by omega)
    have bent : mBin fAdd (mBin fAdd (mSl (mVar 6) mNo (mPart (mVar 7))) (mTup (mCons (mVar 8) mNil))) (mSl (mVar 6) (mPart (mBin fAdd (mVar 7) (mC (.int 1)))) mNo) [some (.ref n), some (.d (eF F)), some (.d (eP P)), some (.d (.list ((allN F P).map eIT))), some (.d (.bool false)), some (.d canNot), some (.d (.tuple (eIs W))), some (.d (.int v)), some (.d (.int u)), none, none, none, none] S2 = some (.d (.tuple (eIs (W.take v.toNat ++ [u] ++ W.drop (v.toNat + 1)))), S2) := by
      refine (add_tup (add_tup ct.1 (mTup_v (ds := [.int u]) rfl (by simp)) (sl _ _ (by simp; omega) (by simp))) ct1.2 (sl _ _ (by simp; omega) (by simp; omega))).trans ?_
      unfold eIs
      simp [List.map_take, List.map_drop]
    refine seq (mSet_v bent) ?_
    generalize hB : W.take v.toNat ++ [u] ++ W.drop (v.toNat + 1) = B
    have hBl : B.length < 1000 := by rw [← hB]; simp; omega
    have cw1 := cut_tup (S := S2) (δ := [some (.ref n), some (.d (eF F)), some (.d (eP P)), some (.d (.list ((allN F P).map eIT))), some (.d (.bool false)), some (.d canNot), some (.d (.tuple (eIs W))), some (.d (.int v)), some (.d (.int u)), some (.d (.tuple (eIs B))), none, none, none]) (mVar 6) (mC (.int 1)) (ds := eIs W) (k := 1) (i := 1) rfl rfl rfl
    have eT : ∀ k, (eIs W).take k = eIs (W.take k) := fun k => by unfold eIs; rw [List.map_take]
    have eD : ∀ k, (eIs W).drop k = eIs (W.drop k) := fun k => by unfold eIs; rw [List.map_drop]
    have things : mImm (mLst (mCons (mVar 6) (mCons (mVar 9) (mCons (mSl (mVar 6) (mPart (mC (.int 1))) mNo) (mCons (mBin fAdd (mVar 6) (mSl (mVar 6) mNo (mPart (mC (.int 1))))) (mCons (mImm (mCallF cList (mCons (mVar 6) mNil))) (mCons (mC .none) mNil))))))) [some (.ref n), some (.d (eF F)), some (.d (eP P)), some (.d (.list ((allN F P).map eIT))), some (.d (.bool false)), some (.d canNot), some (.d (.tuple (eIs W))), some (.d (.int v)), some (.d (.int u)), some (.d (.tuple (eIs B))), none, none, none] S2 =
        some (.d (.list ([Th.tup W, Th.tup B, Th.tup (W.drop 1), Th.tup (W ++ W.take 1), Th.lst W, Th.non].map eTh)), S2) := by
      refine mImm_v ?_
      unfold mLst
      rw [mCons_v (show mVar 6 _ S2 = some (.d (.tuple (eIs W)), S2) from rfl) (mCons_v (show mVar 9 _ S2 = some (.d (.tuple (eIs B)), S2) from rfl) (mCons_v cw1.2 (mCons_v (add_tup (xs := eIs W) (ys := (eIs W).take 1) rfl cw1.1 (sl _ _ (by omega) (by rw [List.length_take]; omega))) (mCons_v (mImm_v (ds := eIs W) rfl) (mCons_v rfl rfl))))), Option.bind_some, eT, eD]
      have : eIs W ++ eIs (W.take 1) = eIs (W ++ W.take 1) := by unfold eIs; simp
      rw [this]
      rfl
    refine seq (mSet_v things) ?_
    have small : ∀ x ∈ [Th.tup W, Th.tup B, Th.tup (W.drop 1), Th.tup (W ++ W.take 1), Th.lst W, Th.non], ∀ ws, x = .tup ws → ws.length < 1000 := by
      intro x hx ws e
      subst e
      simp only [List.mem_cons, List.not_mem_nil, or_false, Th.tup.injEq, reduceCtorEq, or_self] at hx
      rcases hx with rfl | rfl | rfl | rfl
      · omega
      · exact hBl
      · simp; omega
      · simp; omega
    generalize hX : [Th.tup W, Th.tup B, Th.tup (W.drop 1), Th.tup (W ++ W.take 1), Th.lst W, Th.non] = X at small
    have hXl : X.length < 1000000 := by rw [← hX]; simp
    have src : Src (mIter (mVar 10)) [some (.ref n), some (.d (eF F)), some (.d (eP P)), some (.d (.list ((allN F P).map eIT))), some (.d (.bool false)), some (.d canNot), some (.d (.tuple (eIs W))), some (.d (.int v)), some (.d (.int u)), some (.d (.tuple (eIs B))), some (.d (.list (X.map eTh))), none, none] S2 (X.map fun x => .d (eTh x)) (fun S' => S' = S2) := by
      have := src_list (a := mVar 10) (δ := [some (.ref n), some (.d (eF F)), some (.d (eP P)), some (.d (.list ((allN F P).map eIT))), some (.d (.bool false)), some (.d canNot), some (.d (.tuple (eIs W))), some (.d (.int v)), some (.d (.int u)), some (.d (.tuple (eIs B))), some (.d (.list (X.map eTh))), none, none]) (S := S2) (ds := X.map eTh) (J := fun S' => S' = S2) rfl
      rw [List.map_map] at this
      exact this
    have c1 := comp_map (n := nName 12) (e := mCall g_is_reason (mCons (mVar 1) (mCons (mVar 2) (mCons (mVar 12) mNil)))) (vs := [12]) X (fun x => .d (eTh x)) (thN F P) (fun b => .d (.bool b)) src hXl fun x hx => ⟨_, rfl, cl rfl (v_isr_th okS2 h hp x (small x hx))⟩
    have c2 := comp_map (n := nName 12) (e := mCall g__law_is_reason (mCons (mVar 1) (mCons (mVar 2) (mCons (mVar 12) mNil)))) (vs := [12]) X (fun x => .d (eTh x)) (thN F P) (fun b => .d (.bool b)) src hXl fun x hx => ⟨_, rfl, cl rfl (v_lisr_th M okS2 h hp x (small x hx))⟩
    have eb := bool_w2 (X.map (thN F P))
    rw [eb] at c1 c2
    exact mRet_w (cl (mCons_v (mImm_v c1) (mCons_v (mImm_v c2) rfl)) (same_bools seqd_list (by simpa using hXl)))
  | true =>
    rw [hc] at e4 g1
    obtain ⟨i, hi⟩ : ∃ i, firstN F P = some i := by
      rw [canN_iff] at hc
      exact Option.isSome_iff_exists.mp hc
    have hil := firstN_lt hi
    obtain ⟨tl1, tl2, tl3⟩ := toLife_len (P := P) h hil
    have tev := toLife_ev (P := P) h (i := i)
    have tbeh := M.to P i hp hi
    have e7 : ∀ {b : MS}, mSeq (mPar 5 6 (mCons (mCall g__law_heard (mCons (mC (.int 0)) (mCons (mVar 1) (mCons (mVar 2) mNil)))) (mCons (mCall g__law_heard (mCons (mC (.int 1)) (mCons (mVar 1) (mCons (mVar 2) mNil)))) mNil))) b [some (.ref n), some (.d (eF F)), some (.d (eP P)), some (.d (.list ((allN F P).map eIT))), some (.d (.bool true)), none, none, none, none, none, none, none, none] S = b [some (.ref n), some (.d (eF F)), some (.d (eP P)), some (.d (.list ((allN F P).map eIT))), some (.d (.bool true)), some (.d (eL (toLife F P i))), some (.d canNot), none, none, none, none, none, none] S :=
      fun {b} => mSeq_nx (mPar_v (mCons_v (cl rfl (v_heard0_yes ok h hp hi)) (mCons_v (cl rfl (v_heard1_no ok h hp hc)) rfl)))
    have hlast : ∃ L0 fs, toLife F P i = L0 ++ [Ev.cut fs] := ⟨_, _, rfl⟩
    generalize hL : toLife F P i = L at e7 tl1 tl2 tl3 tev tbeh hlast
    have lenL : (L.map eE).length = L.length := by simp
    obtain ⟨v, t1, d1, ok1, v0, v1⟩ := v_take (r := (L.length : Nat)) hn ht (by omega) (by omega) (by omega)
    have okS1 : OkS (S.set n (tl t1)) := ok.tin
    have lnS1 : (S.set n (tl t1)).length = S.length := by simp
    generalize hS1 : S.set n (tl t1) = S1 at d1 okS1 lnS1
    have ev : v = ((v.toNat : Nat) : Int) := by omega
    have shL : shp 3 (eL L) := shp_tup (k := 2) fun x hx => by
      obtain ⟨e, _, rfl⟩ := List.mem_map.mp hx
      exact shp_E e
    have guard2 : ∀ {b : MS}, mSeq (mIfS (mtOr (mtNot (mTst (mCall g__law_same (mCons (mVar 6) (mCons (mImm (mLst (mCons (mC (.str "can not")) (mCons (mC (.bool true)) mNil)))) mNil))))) (mtOr (mtNot (mTst (mCall g__law_same (mCons (mCall g__law_face_behind (mCons (mVar 1) (mCons (mVar 5) mNil))) (mCons (mVar 2) mNil))))) (mtOr (mTst (mBin fEq (mVar 5) (mTup mNil))) (mTst (mBin fNe (mBin fIx (mBin fIx (mVar 5) (mNeg (mC (.int 1)))) (mC (.int 0))) (mC (.str "cut"))))))) (mRet (mC (.bool false))) mNext) b [some (.ref n), some (.d (eF F)), some (.d (eP P)), some (.d (.list ((allN F P).map eIT))), some (.d (.bool true)), some (.d (eL L)), some (.d canNot), none, none, none, none, none, none] S = b [some (.ref n), some (.d (eF F)), some (.d (eP P)), some (.d (.list ((allN F P).map eIT))), some (.d (.bool true)), some (.d (eL L)), some (.d canNot), none, none, none, none, none, none] S := fun {b} => by
      refine guard_f (p := false) ((mtOr_b (p := false) (mtNot_b (p := true) (mTst_b (cl (mCons_v rfl (mCons_v rfl rfl)) same_canNot))) fun _ => (mtOr_b (p := false) (mtNot_b (p := true) (mTst_b ((cl (mCons_v (cl rfl (v_face_behind ok h L tev (by omega))) (mCons_v rfl rfl)) (same_behind h hp _)).trans ?_))) fun _ => (mtOr_b (p := false) (mTst_b (mBin_v rfl rfl (fEq_of shL.sh (shp_eIT []).sh ?_))) fun _ => mTst_b (p := false) ?_).trans rfl).trans rfl).trans rfl) rfl
      · rw [tbeh]
        simp
      · show PyData.eqv (.tuple (L.map eE)) (.tuple []) = false
        rw [eqv_tup]
        cases L with
        | nil => simp at tl2
        | cons a l => rw [List.map_cons, PyData.eqvAll]
      · obtain ⟨L0, fs, rfl⟩ := hlast
        have x1 : mBin fIx (mVar 5) (mNeg (mC (.int 1))) [some (.ref n), some (.d (eF F)), some (.d (eP P)), some (.d (.list ((allN F P).map eIT))), some (.d (.bool true)), some (.d (eL (L0 ++ [Ev.cut fs]))), some (.d canNot), none, none, none, none, none, none] S = some (.d (eE (.cut fs)), S) := by
          refine mBin_v rfl (show mNeg (mC (.int 1)) _ S = some (.d (.int (-1)), S) from rfl) ?_
          have : atI ((L0 ++ [Ev.cut fs]).map eE) (-1) = some (eE (.cut fs)) := by
            unfold atI ixN
            rw [if_neg (by omega), if_pos (by simp; omega)]
            simp
            rw [show (-1 + ((L0.length : Int) + 1)).toNat = L0.length by omega]
            simp
          show (atI ((L0 ++ [Ev.cut fs]).map eE) (-1)).map _ = _
          rw [this]
          rfl
        exact mBin_v (mBin_v x1 rfl (fIx_tup (k := 0) rfl rfl)) rfl (by kernel_rfl)
    have guard3 : ∀ {b : MS}, mSeq (mIfS (mTst (mBin fGt (mCall cLen (mCons (mVar 5) mNil)) (mBin fAdd (mBin fAdd (mBin fMulA (mBin fAdd (mBin fIx (mVar 1) (mC (.int 2))) (mC (.int 1))) (mBin fIx (mVar 1) (mC (.int 0)))) (mBin fIx (mVar 1) (mC (.int 1)))) (mC (.int 1))))) (mRet (mC (.bool false))) mNext) b [some (.ref n), some (.d (eF F)), some (.d (eP P)), some (.d (.list ((allN F P).map eIT))), some (.d (.bool true)), some (.d (eL L)), some (.d canNot), none, none, none, none, none, none] S = b [some (.ref n), some (.d (eF F)), some (.d (eP P)), some (.d (.list ((allN F P).map eIT))), some (.d (.bool true)), some (.d (eL L)), some (.d canNot), none, none, none, none, none, none] S := fun {b} => by
      refine guard_f (p := decide (((F.m : Int) + 1) * F.c + F.d + 1 < ((L.map eE).length : Nat))) (mTst_b (mBin_v rfl (mBin_v (mBin_v (mBin_v (mBin_v rfl rfl rfl) rfl (mulC _ _ (.inr (by omega)))) rfl rfl) rfl rfl) rfl)) ?_
      rw [lenL]
      exact decide_eq_false (by omega)
    have lenT : mCall cLen (mCons (mVar 5) mNil) [some (.ref n), some (.d (eF F)), some (.d (eP P)), some (.d (.list ((allN F P).map eIT))), some (.d (.bool true)), some (.d (eL L)), some (.d canNot), none, none, none, none, none, none] S = some (.d (.int (L.length : Nat)), S) := by
      refine (show _ = some (Wv.d (.int ((L.map eE).length : Nat)), S) from rfl).trans ?_
      rw [lenL]
    have sl : ∀ a b : List PyData, a.length ≤ 300 → b.length ≤ 300 → a.length + b.length ≤ 1000000 := fun a b h1 h2 => by omega
    have ct := cut_tup (S := S1) (δ := [some (.ref n), some (.d (eF F)), some (.d (eP P)), some (.d (.list ((allN F P).map eIT))), some (.d (.bool true)), some (.d (eL L)), some (.d canNot), some (.d (.int v)), none, none, none, none, none]) (mVar 5) (mVar 7) (ds := L.map eE) (k := v.toNat) rfl rfl ev
    have ct1 := cut_tup (S := S1) (δ := [some (.ref n), some (.d (eF F)), some (.d (eP P)), some (.d (.list ((allN F P).map eIT))), some (.d (.bool true)), some (.d (eL L)), some (.d canNot), some (.d (.int v)), none, none, none, none, none]) (mVar 5) (mBin fAdd (mVar 7) (mC (.int 1))) (ds := L.map eE) (k := v.toNat + 1) (i := v + 1) rfl rfl (by omega)
    have cl1 : mSl (mVar 5) mNo (mPart (mNeg (mC (.int 1)))) [some (.ref n), some (.d (eF F)), some (.d (eP P)), some (.d (.list ((allN F P).map eIT))), some (.d (.bool true)), some (.d (eL L)), some (.d canNot), some (.d (.int v)), none, none, none, none, none] S1 = some (.d (.tuple ((L.map eE).take (L.length - 1))), S1) := by
      refine (show _ = fSl (.d (.tuple (L.map eE))) none (some (-1 : Int)) S1 from rfl).trans ?_
      rw [fSl_tup]
      have : cutG (L.map eE) none (some (-1 : Int)) = (L.map eE).take (L.length - 1) := by
        have e1 : HT.sIx (L.map eE).length (L.map eE).length (some (-1 : Int)) = L.length - 1 := by
          show (if (-1 : Int) < 0 then ((-1 : Int) + ((L.map eE).length : Int)).toNat else min (-1 : Int).toNat (L.map eE).length) = _
          rw [if_pos (by omega), lenL]
          omega
        unfold cutG
        rw [e1, HT.sIx_none, List.drop_zero, Nat.sub_zero]
      rw [this]
    have things : mImm (mLst (mCons (mVar 5) (mCons (mBin fAdd (mSl (mVar 5) mNo (mPart (mVar 7))) (mSl (mVar 5) (mPart (mBin fAdd (mVar 7) (mC (.int 1)))) mNo)) (mCons (mBin fAdd (mBin fAdd (mSl (mVar 5) mNo (mPart (mVar 7))) (mTup (mCons (mTup (mCons (mC (.str "sync")) mNil)) mNil))) (mSl (mVar 5) (mPart (mVar 7)) mNo)) (mCons (mSl (mVar 5) mNo (mPart (mNeg (mC (.int 1))))) (mCons (mBin fAdd (mVar 5) (mTup (mCons (mTup (mCons (mC (.str "wake")) mNil)) mNil))) (mCons (mImm (mCallF cList (mCons (mVar 5) mNil))) (mCons (mBin fAdd (mBin fAdd (mSl (mVar 5) mNo (mPart (mVar 7))) (mTup (mCons (mTup (mCons (mC (.str "cut")) (mCons (mTup mNil) mNil))) mNil))) (mSl (mVar 5) (mPart (mVar 7)) mNo)) mNil)))))))) [some (.ref n), some (.d (eF F)), some (.d (eP P)), some (.d (.list ((allN F P).map eIT))), some (.d (.bool true)), some (.d (eL L)), some (.d canNot), some (.d (.int v)), none, none, none, none, none] S1 =
        some (.d (.list ([Lh.tup L, Lh.tup (L.take v.toNat ++ L.drop (v.toNat + 1)), Lh.tup (L.take v.toNat ++ [.sync] ++ L.drop v.toNat), Lh.tup (L.take (L.length - 1)), Lh.tup (L ++ [.wake]), Lh.lst (L.map eE), Lh.tup (L.take v.toNat ++ [.cut []] ++ L.drop v.toNat)].map eLh)), S1) := by
      refine mImm_v ?_
      unfold mLst
      rw [mCons_v (show mVar 5 _ S1 = some (.d (eL L), S1) from rfl) (mCons_v (add_tup ct.1 ct1.2 (sl _ _ (by simp; omega) (by simp; omega))) (mCons_v (add_tup (add_tup ct.1 (mTup_v (ds := [eE Ev.sync]) rfl (by simp)) (sl _ _ (by simp; omega) (by simp))) ct.2 (sl _ _ (by simp; omega) (by simp; omega))) (mCons_v cl1 (mCons_v (add_tup (xs := L.map eE) (ys := [eE Ev.wake]) rfl (mTup_v (ds := [eE Ev.wake]) rfl (by simp)) (sl _ _ (by simp; omega) (by simp))) (mCons_v (mImm_v (ds := L.map eE) rfl) (mCons_v (add_tup (add_tup ct.1 (mTup_v (ds := [eE (Ev.cut [])]) rfl (by simp)) (sl _ _ (by simp; omega) (by simp))) ct.2 (sl _ _ (by simp; omega) (by simp; omega))) rfl)))))), Option.bind_some]
      have t1 : ∀ k, (L.map eE).take k = (L.take k).map eE := fun k => by rw [List.map_take]
      have t2 : ∀ k, (L.map eE).drop k = (L.drop k).map eE := fun k => by rw [List.map_drop]
      rw [t1, t1, t2, t2]
      have a1 : (L.take v.toNat).map eE ++ (L.drop (v.toNat + 1)).map eE = (L.take v.toNat ++ L.drop (v.toNat + 1)).map eE := by simp
      have a2 : (L.take v.toNat).map eE ++ [eE Ev.sync] ++ (L.drop v.toNat).map eE = (L.take v.toNat ++ [Ev.sync] ++ L.drop v.toNat).map eE := by simp
      have a3 : (L.take v.toNat).map eE ++ [eE (Ev.cut [])] ++ (L.drop v.toNat).map eE = (L.take v.toNat ++ [Ev.cut []] ++ L.drop v.toNat).map eE := by simp
      have a4 : L.map eE ++ [eE Ev.wake] = (L ++ [Ev.wake]).map eE := by simp
      rw [a1, a2, a3, a4]
      rfl
    have small : ∀ x ∈ [Lh.tup L, Lh.tup (L.take v.toNat ++ L.drop (v.toNat + 1)), Lh.tup (L.take v.toNat ++ [.sync] ++ L.drop v.toNat), Lh.tup (L.take (L.length - 1)), Lh.tup (L ++ [.wake]), Lh.lst (L.map eE), Lh.tup (L.take v.toNat ++ [.cut []] ++ L.drop v.toNat)], ∀ K, x = .tup K → (∀ e ∈ K, EvOk e) ∧ K.length < 1000 := by
      intro x hx K e
      subst e
      have tk : ∀ k, ∀ e ∈ L.take k, EvOk e := fun k e he => tev e (List.mem_of_mem_take he)
      have dr : ∀ k, ∀ e ∈ L.drop k, EvOk e := fun k e he => tev e (List.mem_of_mem_drop he)
      have ap : ∀ A B : List Ev, (∀ e ∈ A, EvOk e) → (∀ e ∈ B, EvOk e) → ∀ e ∈ A ++ B, EvOk e := fun A B h1 h2 e he => (List.mem_append.mp he).elim (h1 e) (h2 e)
      have one : ∀ x : Ev, EvOk x → ∀ e ∈ [x], EvOk e := fun x hx e he => by rw [List.mem_singleton.mp he]; exact hx
      simp only [List.mem_cons, List.not_mem_nil, or_false, Lh.tup.injEq, reduceCtorEq, or_self, false_or] at hx
      rcases hx with rfl | rfl | rfl | rfl | rfl | rfl
      · exact ⟨tev, by omega⟩
      · exact ⟨ap _ _ (tk _) (dr _), by simp; omega⟩
      · exact ⟨ap _ _ (ap _ _ (tk _) (one _ trivial)) (dr _), by simp; omega⟩
      · exact ⟨tk _, by simp; omega⟩
      · exact ⟨ap _ _ tev (one _ trivial), by simp; omega⟩
      · exact ⟨ap _ _ (ap _ _ (tk _) (one _ (show (0 : Nat) < 1000 by omega))) (dr _), by simp; omega⟩
    generalize hX : [Lh.tup L, Lh.tup (L.take v.toNat ++ L.drop (v.toNat + 1)), Lh.tup (L.take v.toNat ++ [.sync] ++ L.drop v.toNat), Lh.tup (L.take (L.length - 1)), Lh.tup (L ++ [.wake]), Lh.lst (L.map eE), Lh.tup (L.take v.toNat ++ [.cut []] ++ L.drop v.toNat)] = X at small things
    have hXl : X.length < 1000000 := by rw [← hX]; simp
    obtain ⟨δ2, S2, e9, z, rfl, rfl⟩ := for_inv (n := nName 12) (b := mDrop (mAppend (mVar 11) (mAnd (mCall cIsi (mCons (mVar 12) (mCons (mTy .tuple) mNil))) (mCall g__law_same (mCons (mCall g__law_face_behind (mCons (mVar 1) (mCons (mVar 12) mNil))) (mCons (mVar 2) mNil))))))
      (mi := mIter (mVar 10)) (δ := [some (.ref n), some (.d (eF F)), some (.d (eP P)), some (.d (.list ((allN F P).map eIT))), some (.d (.bool true)), some (.d (eL L)), some (.d canNot), some (.d (.int v)), none, none, some (.d (.list (X.map eLh))), some (.ref S1.length), none]) (S := S1 ++ [[]])
      X (fun x => .d (eLh x)) (fun p δ' S' => ∃ z, δ' = [some (.ref n), some (.d (eF F)), some (.d (eP P)), some (.d (.list ((allN F P).map eIT))), some (.d (.bool true)), some (.d (eL L)), some (.d canNot), some (.d (.int v)), none, none, some (.d (.list (X.map eLh))), some (.ref S1.length), z] ∧ S' = S1 ++ [((p.map (lhN F P)).map PyData.bool).map .d]) (J := fun _ => True) (by
        have := src_list (a := mVar 10) (δ := [some (.ref n), some (.d (eF F)), some (.d (eP P)), some (.d (.list ((allN F P).map eIT))), some (.d (.bool true)), some (.d (eL L)), some (.d canNot), some (.d (.int v)), none, none, some (.d (.list (X.map eLh))), some (.ref S1.length), none]) (S := S1 ++ [[]]) (ds := X.map eLh) (J := fun _ => True) rfl
        rw [List.map_map] at this
        exact this) (fun _ _ _ _ => trivial) (by
        rintro p x r δ1 S' hx ⟨z, rfl, rfl⟩
        have okx : OkS (S1 ++ [((p.map (lhN F P)).map PyData.bool).map .d]) := okS1.app (ok_data _ (fun x => x) _)
        have hpl : p.length < X.length := by rw [hx]; simp
        have val : mAnd (mCall cIsi (mCons (mVar 12) (mCons (mTy .tuple) mNil))) (mCall g__law_same (mCons (mCall g__law_face_behind (mCons (mVar 1) (mCons (mVar 12) mNil))) (mCons (mVar 2) mNil))) [some (.ref n), some (.d (eF F)), some (.d (eP P)), some (.d (.list ((allN F P).map eIT))), some (.d (.bool true)), some (.d (eL L)), some (.d canNot), some (.d (.int v)), none, none, some (.d (.list (X.map eLh))), some (.ref S1.length), some (.d (eLh x))] (S1 ++ [((p.map (lhN F P)).map PyData.bool).map .d]) = some (.d (.bool (lhN F P x)), S1 ++ [((p.map (lhN F P)).map PyData.bool).map .d]) := by
          cases x with
          | tup K =>
            obtain ⟨k1, k2⟩ := small (.tup K) (by rw [hx]; simp) K rfl
            exact mAnd_bb (p := true) (ci rfl rfl) fun _ => cl (mCons_v (cl rfl (v_face_behind okx h K k1 k2)) (mCons_v rfl rfl)) (same_behind h hp _)
          | lst ds => exact (mAnd_bb (p := false) (q := false) (ci rfl rfl) fun z => by cases z).trans rfl
        refine ⟨_, _, _, rfl, mDrop_v ((mAppend_v rfl val get_last (by simp; omega)).trans (by rw [set_last])), some (.d (eLh x)), rfl, ?_⟩
        simp) ⟨none, rfl, rfl⟩
    have okS2 : OkS (S1 ++ [((X.map (lhN F P)).map PyData.bool).map .d]) := okS1.app (ok_data _ (fun x => x) _)
    refine ⟨t1, trim_d (S1 := S.set n (tl t1)) (T := [((X.map (lhN F P)).map PyData.bool).map .d]) ?_ (by simp) (by rw [hS1]; exact okS1), ok1.mono (by omega)⟩
    rw [hS1]
    refine sem_rt ((seq e3 (seq e4 (g1.trans (e7.trans ((guard_f (p := false) (mtNot_b (p := true) (mTst_b rfl)) rfl).trans (guard2.trans (guard3.trans ?_))))))))
    refine seq (mSet_v (cl (mCons_v rfl (mCons_v lenT rfl)) d1)) (seq (mSet_v things) (seq (mSet_v (mMut_v (ws := []) rfl)) (seq e9 ?_)))
    have gl : (S1 ++ [((X.map (lhN F P)).map PyData.bool).map .d])[S1.length]? = some (((X.map (lhN F P)).map PyData.bool).map .d) := get_last
    generalize hS2 : S1 ++ [((X.map (lhN F P)).map PyData.bool).map .d] = S2 at okS2 gl ⊢
    have c1 := comp_map (n := nName 12) (e := mCall g_is_life_to (mCons (mVar 1) (mCons (mVar 2) (mCons (mVar 12) mNil)))) (vs := [12]) (mi := mIter (mVar 10)) (δ := [some (.ref n), some (.d (eF F)), some (.d (eP P)), some (.d (.list ((allN F P).map eIT))), some (.d (.bool true)), some (.d (eL L)), some (.d canNot), some (.d (.int v)), none, none, some (.d (.list (X.map eLh))), some (.ref S1.length), z]) (S := S2) X (fun x => .d (eLh x)) (lhN F P) (fun b => .d (.bool b)) (by
      have := src_list (a := mVar 10) (δ := [some (.ref n), some (.d (eF F)), some (.d (eP P)), some (.d (.list ((allN F P).map eIT))), some (.d (.bool true)), some (.d (eL L)), some (.d canNot), some (.d (.int v)), none, none, some (.d (.list (X.map eLh))), some (.ref S1.length), z]) (S := S2) (ds := X.map eLh) (J := fun S' => S' = S2) rfl
      rw [List.map_map] at this
      exact this) hXl fun x hx => ⟨_, rfl, cl rfl (v_ilt_th M okS2 h hp x fun K e => (small x hx K e).1)⟩
    have eb := bool_w2 (X.map (lhN F P))
    rw [eb] at c1
    exact mRet_w (cl (mCons_v (mImm_v c1) (mCons_v rfl rfl)) (same_bools (seqd_ref gl) (by simpa using hXl)))
end
end K15
set_option Elab.async false
set_option linter.all false
set_option maxRecDepth 100000
set_option maxHeartbeats 4000000
set_option autoImplicit false
namespace K15
open PySem PySem.Spec PyProof.Rows L2
section
variable {S S1 : Sto} {δ δ' : DEnv} {F : Fm} {P : Pic} {w : Wv}
theorem fSl_scr {ns : List Int} {lo hi : Option Int} : fSl (.scr ns) lo hi S = some (.d (.list (eIs (cutG ns lo hi))), S) := by
  show (some (ns.map fun i => Wv.d (.int i))).bind (fun ws => (toDs ws).map fun ds => (Wv.d (.list (cutG ds lo hi)), S)) = _
  rw [Option.bind_some, show (ns.map fun i => Wv.d (.int i)) = (eIs ns).map .d from iw_eq ns, toDs_map]
  have : cutG (eIs ns) lo hi = eIs (cutG ns lo hi) := by
    unfold cutG eIs
    rw [List.map_take, List.map_drop, List.length_map]
  show some (Wv.d (.list (cutG (eIs ns) lo hi)), S) = _
  rw [this]
theorem cList_list (l : List Int) : cList [.d (.list (eIs l))] S = some (iw l, S) := by
  show (some ((eIs l).map Wv.d)).map (fun ws => (ws, S)) = _
  rw [← iw_eq]
  rfl
theorem v_cells (ns : List Int) (hn : ns.length < 1000) (ok : OkS S) : ∃ n z S', g__law_cells [.scr ns, .d (.int 1)] S = some (.ref n, S') ∧ S'[n]? = some [.d (.int z)] ∧ OkS S' := by
  have c1 : cutG ns none (some (1 : Int)) = ns.take 1 := cutG_take ns 1
  -- the cells to begin with
  obtain ⟨n, z, T, e0, gz, hT⟩ : ∃ n z T, mOrL (mMut (mCallF cList (mCons (mSl (mVar 0) mNo (mPart (mVar 1))) mNil))) (mMut (mLst (mCons (mC (.int 0)) mNil))) [some (.scr ns), some (.d (.int 1)), none, none, none, none] S = some (.ref n, S ++ T) ∧ (S ++ T)[n]? = some [.d (.int z)] ∧ OkS (S ++ T) := by
    have a : mMut (mCallF cList (mCons (mSl (mVar 0) mNo (mPart (mVar 1))) mNil)) [some (.scr ns), some (.d (.int 1)), none, none, none, none] S = some (.ref S.length, S ++ [iw (ns.take 1)]) := by
      refine mMut_v ((mCallF_v (mCons_v ((show _ = fSl (.scr ns) none (some (1 : Int)) S from rfl).trans fSl_scr) rfl)).trans ?_)
      rw [c1]
      exact cList_list _
    cases ns with
    | nil =>
      refine ⟨S.length + 1, 0, [[], [.d (.int 0)]], ?_, ?_, ?_⟩
      rotate_left 2
      · have : S ++ [[], [Wv.d (.int 0)]] = (S ++ [[]]) ++ [[Wv.d (.int 0)]] := by simp
        rw [this]
        exact (ok.app rfl).app rfl
      · unfold mOrL
        rw [a, Option.bind_some]
        show ((S ++ [[]])[S.length]?).bind _ = _
        rw [get_last, Option.bind_some]
        show mMut (mLst (mCons (mC (.int 0)) mNil)) _ (S ++ [[]]) = _
        refine (mMut_v (ws := [.d (.int 0)]) rfl).trans ?_
        simp
      · have : S ++ [[], [Wv.d (.int 0)]] = (S ++ [[]]) ++ [[Wv.d (.int 0)]] := by simp
        rw [this]
        have e : S.length + 1 = (S ++ [([] : List Wv)]).length := by simp
        rw [e]
        exact get_last
    | cons x l =>
      refine ⟨S.length, x, [[.d (.int x)]], ?_, get_last, ok.app rfl⟩
      unfold mOrL
      rw [a, Option.bind_some]
      show ((S ++ [[Wv.d (.int x)]])[S.length]?).bind _ = _
      rw [get_last, Option.bind_some]
      rfl
  generalize S ++ T = S0 at e0 gz hT
  have ln := get_lt gz
  generalize hl : cutG ns (some (1 : Int)) (some (63 : Int)) = l
  have e1 : mSl (mVar 0) (mPart (mVar 1)) (mPart (mC (.int 63))) [some (.scr ns), some (.d (.int 1)), some (.ref n), none, none, none] S0 = some (.d (.list (eIs l)), S0) := by
    rw [← hl]
    exact (show _ = fSl (.scr ns) (some (1 : Int)) (some (63 : Int)) S0 from rfl).trans fSl_scr
  obtain ⟨δ2, S2, e2, z', x, y, u, rfl, rfl⟩ := for_inv (n := nTup (nCons (nName 3) (nCons (nName 4) nNil))) (b := mSeq (mSet 5 (mBin fMod (mCall cInt (mCons (mVar 3) mNil)) (mVar 1))) (mAsgG (gSubD (mVar 2) (mVar 5)) (mBin fAdd (mBin fIx (mVar 2) (mVar 5)) (mBin fMulA (mVar 4) (mBin fAdd (mVar 3) (mC (.int 2)))))))
    (mi := mEnum (mSl (mVar 0) (mPart (mVar 1)) (mPart (mC (.int 63))))) (δ := [some (.scr ns), some (.d (.int 1)), some (.ref n), none, none, none]) (S := S0)
    l.zipIdx (fun p => .d (.tuple [.int (p.2 : Nat), .int p.1])) (fun p δ' S' => ∃ z x y u, δ' = [some (.scr ns), some (.d (.int 1)), some (.ref n), x, y, u] ∧ S' = S0.set n [.d (.int z)]) (J := fun _ => True) (by
      have := src_enum (J := fun _ => True) e1 rfl (fun _ _ => rfl)
      rw [map_idx, List.map_map] at this
      exact this) (fun _ _ _ _ => trivial) (by
      rintro p ⟨v, k⟩ r δ1 S1 hx ⟨z, x, y, u, rfl, rfl⟩
      have hk : k < l.length := by
        have := List.mem_zipIdx (show (v, k) ∈ l.zipIdx by rw [hx]; simp)
        simpa using this.2.1
      have hl2 : l.length ≤ ns.length := by rw [← hl]; unfold cutG; simp; omega
      have g1 : (S0.set n [Wv.d (.int z)])[n]? = some [.d (.int z)] := List.getElem?_set_self ln
      refine ⟨[(3, .d (.int k)), (4, .d (.int v))], [some (.scr ns), some (.d (.int 1)), some (.ref n), some (.d (.int k)), some (.d (.int v)), some (.d (.int ((k : Int) % 1)))], S0.set n [.d (.int (z + v * ((k : Int) + 2)))], rfl, seq (mSet_v (mBin_v (cl rfl rfl) rfl (fModI_v (k : Int) (c := 1) (by omega)))) (asgG_v (mBin_v (mBin_v rfl rfl (fIx_ref g1 (k := 0) (by omega) rfl)) (mBin_v rfl (mBin_v rfl rfl rfl) (mulC v _ (.inr (by omega)))) rfl) ((gSub_v rfl rfl g1 (by omega) (by rw [List.length_singleton]; omega)).trans ?_)), z + v * ((k : Int) + 2), some (.d (.int k)), some (.d (.int v)), some (.d (.int ((k : Int) % 1))), rfl, rfl⟩
      rw [List.set_set, show ((k : Int) % 1).toNat = 0 by omega]
      rfl) ⟨z, none, none, none, rfl, (set_self gz).symm⟩
  exact ⟨n, z', _, sem_rt (seq (mSet_v e0) (seq e2 (mRet_w rfl))), List.getElem?_set_self ln, hT.set rfl⟩
theorem v_box {n : Nat} {z : Int} (hn : S[n]? = some [.d (.int z)]) : ∃ t, g__law_box [.ref n, .d (.int 0)] S = some (.ref S.length, S ++ [tl t]) ∧ TOk 0 t := by
  have pw : fPow (.d (.int 10)) (.d (.int 18)) S = some (.d (.int 1000000000000000000), S) := by kernel_rfl
  have e0 : mSet 2 (mIf (mTst (mBin fLt (mVar 1) (mCall cLen (mCons (mVar 0) mNil)))) (mBin fIx (mVar 0) (mVar 1)) (mC (.int 0))) [some (.ref n), some (.d (.int 0)), none] S = some (Fl.nx [some (.ref n), some (.d (.int 0)), some (.d (.int z))], S) :=
    mSet_v ((mIf_t (S1 := S) (mTst_b (p := true) (mBin_v rfl (cl rfl (cLen_ref hn)) rfl))).trans (mBin_v rfl rfl (fIx_ref hn (k := 0) rfl rfl)))
  have ab : mCall cAbs (mCons (mVar 2) mNil) [some (.ref n), some (.d (.int 0)), some (.d (.int z))] S = some (.d (.int (if z < 0 then -z else z)), S) := rfl
  have a0 : 0 ≤ (if z < 0 then -z else z) := by split <;> omega
  generalize hA : (if z < 0 then -z else z) = A at ab a0
  have e1 : mBin fMulA (mCall cAbs (mCons (mVar 2) mNil)) (mCall cInt (mCons (mBin fGe (mCall cAbs (mCons (mVar 2) mNil)) (mBin fPow (mC (.int 10)) (mC (.int 18)))) mNil)) [some (.ref n), some (.d (.int 0)), some (.d (.int z))] S = some (.d (.int (A * (if decide (1000000000000000000 ≤ A) = true then 1 else 0))), S) := by
    refine mBin_v ab (w2 := .d (.int (if decide (1000000000000000000 ≤ A) = true then 1 else 0))) (S' := S) (cl (mCons_v (mBin_v ab (mBin_v rfl rfl pw) (show fGe (.d (.int A)) (.d (.int 1000000000000000000)) S = some (.d (.bool (decide (1000000000000000000 ≤ A))), S) from rfl)) rfl) rfl) (mulC _ _ (.inr (by split <;> omega)))
  refine ⟨⟨A * (if decide (1000000000000000000 ≤ A) = true then 1 else 0), z % 2305843009213693951 + 0 + 3182015, 0⟩, sem_rt (seq e0 (mRet_w (mMut_v ?_))), ⟨?_, ?_, ?_, Int.le_refl _, Int.le_refl _⟩⟩
  · unfold mLst
    rw [mCons_v e1 (mCons_v (w := .d (.int (z % 2305843009213693951 + 0 + 3182015))) (mBin_v (mBin_v (mBin_v (cl rfl rfl) rfl (fModI_v z (by omega))) (mBin_v rfl rfl (mulC _ _ (.inl (by omega)))) rfl) rfl rfl) (mCons_v rfl rfl))]
    rfl
  · dsimp only
    split <;> simp <;> omega
  · dsimp only
    have := Int.emod_nonneg z (b := 2305843009213693951) (by omega)
    omega
  · dsimp only
    have := Int.emod_lt_of_pos z (b := 2305843009213693951) (by omega)
    omega
end
end K15
set_option Elab.async false
set_option linter.all false
set_option maxRecDepth 100000
set_option maxHeartbeats 4000000
set_option autoImplicit false
namespace K15
open PySem PySem.Spec PyProof.Rows L2
section
variable {S S1 : Sto} {δ δ' : DEnv} {F : Fm} {P : Pic} {w : Wv}
theorem set_appT {S T : Sto} {n : Nat} {u : List Wv} (h : n < S.length) : (S ++ T).set n u = S.set n u ++ T := List.set_append_left n u h
/-- face[k] = (take(m), note) for k in picks -/
theorem pick_loop {n nf k0 : Nat} {t : Tin} {ks : List Int} {T : Sto} {x1 x2 : Option Wv} {mi : MI} (h : F.Ok) (ln : n < S.length) (hp : PicOk F P) (ht : TOk k0 t) (hk : k0 + 1000 < 1000000000) (hks : ∀ x ∈ ks, 0 ≤ x ∧ x < F.c) (hkl : ks.length < 100)
    (hnf : nf = S.length + T.length)
    (src : Src mi [some (.ref n), some (.d (eF F)), x1, some (.ref nf), x2, none, none, none, none] (S.set n (tl t) ++ T ++ [cw P]) (ks.map fun i => .d (.int i)) (fun _ => True)) :
    ∃ x P' t', mFor mi (nName 4) (mAsgG (gSubD (mVar 3) (mVar 4)) (mTup (mCons (mCall g__law_take (mCons (mVar 0) (mCons (mBin fIx (mVar 1) (mC (.int 2))) mNil))) (mCons (mCall g__law_note (mCons (mVar 0) mNil)) mNil)))) [some (.ref n), some (.d (eF F)), x1, some (.ref nf), x2, none, none, none, none] (S.set n (tl t) ++ T ++ [cw P]) =
      some (Fl.nx [some (.ref n), some (.d (eF F)), x1, some (.ref nf), x, none, none, none, none], S.set n (tl t') ++ T ++ [cw P']) ∧ PicOk F P' ∧ TOk (k0 + 2 * ks.length) t' := by
  have gt : ∀ (t : Tin) (P : Pic), (S.set n (tl t) ++ T ++ [cw P])[n]? = some (tl t) := fun t P => by
    rw [List.getElem?_append_left (by simp; omega), List.getElem?_append_left (by simp; omega), List.getElem?_set_self ln]
  have st : ∀ (t t' : Tin) (P : Pic), (S.set n (tl t) ++ T ++ [cw P]).set n (tl t') = S.set n (tl t') ++ T ++ [cw P] := fun t t' P => by
    rw [set_appT (by simp; omega), set_appT (by simp; omega), List.set_set]
  have gf : ∀ (t : Tin) (P : Pic), (S.set n (tl t) ++ T ++ [cw P])[nf]? = some (cw P) := fun t P => by
    have e : nf = (S.set n (tl t) ++ T).length := by simp; omega
    rw [e]
    exact get_last
  obtain ⟨δ2, S2, e2, x, P', t', rfl, rfl, hP, ok⟩ := for_inv (n := nName 4) (b := mAsgG (gSubD (mVar 3) (mVar 4)) (mTup (mCons (mCall g__law_take (mCons (mVar 0) (mCons (mBin fIx (mVar 1) (mC (.int 2))) mNil))) (mCons (mCall g__law_note (mCons (mVar 0) mNil)) mNil))))
    (mi := mi) (δ := [some (.ref n), some (.d (eF F)), x1, some (.ref nf), x2, none, none, none, none]) (S := S.set n (tl t) ++ T ++ [cw P]) ks (fun i => .d (.int i))
    (fun p δ' S' => ∃ x P' t', δ' = [some (.ref n), some (.d (eF F)), x1, some (.ref nf), x, none, none, none, none] ∧ S' = S.set n (tl t') ++ T ++ [cw P'] ∧ PicOk F P' ∧ TOk (k0 + 2 * p.length) t') (J := fun _ => True) src (fun _ _ _ _ => trivial) (by
      rintro p i r δ1 S1 hx ⟨x, P1, t1, rfl, rfl, hP1, ok1⟩
      have hpl : p.length < ks.length := by rw [hx]; simp
      have hi := hks i (by rw [hx]; simp)
      obtain ⟨l, t2, e2, ok2, l0, l1⟩ := v_take (r := (F.m : Nat)) (gt t1 P1) ok1 (by omega) (by have := h.m1; omega) (by have := h.m4; omega)
      rw [st] at e2
      obtain ⟨nn, t3, e3, ok3⟩ := v_note (gt t2 P1) ok2 (by omega)
      rw [st] at e3
      refine ⟨_, [some (.ref n), some (.d (eF F)), x1, some (.ref nf), some (.d (.int i)), none, none, none, none], S.set n (tl t3) ++ T ++ [cw (put P1 i (some (l, nn)))], rfl, asgG_v (w := .d (eC (some (l, nn)))) (mTup_2 (cl rfl e2) (cl rfl e3)) ((gSub_v rfl rfl (gf t3 P1) hi.1 (by rw [cw_length, hP1.len]; exact hi.2)).trans ?_), some (.d (.int i)), _, t3, rfl, rfl, hP1.putc _ _ fun y hy => by cases hy; exact ⟨l0, l1⟩, ok3.mono (by rw [List.length_append, List.length_singleton]; omega)⟩
      have e : nf = (S.set n (tl t3) ++ T).length := by simp; omega
      rw [e, set_last, cw_set]
      rfl) ⟨x2, P, t, rfl, rfl, hp, ht⟩
  exact ⟨x, P', t', e2, hP, ok⟩
end
end K15
set_option Elab.async false
set_option linter.all false
set_option maxRecDepth 100000
set_option maxHeartbeats 4000000
set_option autoImplicit false
namespace K15
open PySem PySem.Spec PyProof.Rows L2
section
variable {S S1 : Sto} {δ δ' : DEnv} {F : Fm} {P : Pic} {w : Wv}
/-- the law's second form: wider -/
theorem v_form2 {n k : Nat} {t : Tin} {wd : Int} (hn : S[n]? = some (tl t)) (ht : TOk k t) (hk : k + 2 < 1000000000) (h1 : 4 ≤ wd) (h2 : wd ≤ 6) (hδ : mVar 0 δ S = some (.ref n, S)) (hw : ∀ S', mVar 5 δ S' = some (.d (.int wd), S')) (h0 : ∀ S', mVar 0 δ S' = some (.ref n, S')) :
    ∃ F t', mTup (mCons (mVar 5) (mCons (mBin fAdd (mC (.int 2)) (mCall g__law_take (mCons (mVar 0) (mCons (mBin fSub (mVar 5) (mC (.int 3))) mNil)))) (mCons (mCall g__law_of (mCons (mVar 0) (mCons (mImm (mLst (mCons (mC (.int 2)) (mCons (mC (.int 3)) (mCons (mC (.int 2)) (mCons (mC (.int 4)) (mCons (mC (.int 1)) (mCons (mC (.int 2)) mNil)))))))) mNil))) mNil))) δ S = some (.d (eF F), S.set n (tl t')) ∧ TOk (k + 2) t' ∧ F.Ok := by
  have ln := get_lt hn
  obtain ⟨v2, t2, e2, ok2, p2, q2⟩ := v_take (r := wd - 3) hn ht (by omega) (by omega) (by omega)
  obtain ⟨x, t3, e3, ok3, hx⟩ := v_of (S := S.set n (tl t2)) (ds := [.int 2, .int 3, .int 2, .int 4, .int 1, .int 2]) (List.getElem?_set_self ln) ok2 (by omega) (by simp) (by simp)
  rw [List.set_set] at e3
  have : ∃ m : Nat, x = .int m ∧ 1 ≤ m ∧ m ≤ 4 := by
    simp only [List.mem_cons, List.not_mem_nil, or_false] at hx
    rcases hx with rfl | rfl | rfl | rfl | rfl | rfl
    · exact ⟨2, rfl, by omega, by omega⟩
    · exact ⟨3, rfl, by omega, by omega⟩
    · exact ⟨2, rfl, by omega, by omega⟩
    · exact ⟨4, rfl, by omega, by omega⟩
    · exact ⟨1, rfl, by omega, by omega⟩
    · exact ⟨2, rfl, by omega, by omega⟩
  obtain ⟨m, rfl, m1, m4⟩ := this
  refine ⟨⟨wd.toNat, (2 + v2).toNat, m⟩, t3, ?_, ok3, ⟨by dsimp only; omega, by dsimp only; omega, by dsimp only; omega, by dsimp only; omega, m1, m4⟩⟩
  have eF' : eF ⟨wd.toNat, (2 + v2).toNat, m⟩ = .tuple [.int wd, .int (2 + v2), .int m] := by
    show PyData.tuple [.int ((wd.toNat : Nat) : Int), .int (((2 + v2).toNat : Nat) : Int), .int m] = _
    rw [show ((wd.toNat : Nat) : Int) = wd by omega, show (((2 + v2).toNat : Nat) : Int) = 2 + v2 by omega]
  rw [eF']
  exact mTup_3 (hw _) (mBin_v rfl (cl (mCons_v (h0 _) (mCons_v (mBin_v (hw _) rfl rfl) rfl)) e2) rfl) (cl (mCons_v (h0 _) (mCons_v rfl rfl)) e3)
end
end K15
set_option Elab.async false
set_option linter.all false
set_option maxRecDepth 100000
set_option maxHeartbeats 4000000
set_option autoImplicit false
namespace K15
open PySem PySem.Spec PyProof.Rows L2
section
variable {S S1 : Sto} {δ δ' : DEnv} {F : Fm} {P : Pic} {w : Wv}
theorem okS_pic {T : Sto} {P : Pic} (h : OkS (S ++ T)) : OkS (S ++ T ++ [cw P]) := h.app (ok_cw _ P)
theorem for_shift {mi : MI} {n : MN} {b : MS} {k : Nat} {get : Gt} {S' : Sto} (h : mi δ S = some ((k, get), S')) : mFor mi n b δ S = mFor (fun _ S => some ((k, get), S)) n b δ S' := by
  unfold mFor
  rw [h]
/-- one lap of the first part -/
theorem v_lap_turn {n k0 : Nat} {t : Tin} {T : Sto} {lap : Int} {x3 x4 : Option Wv} (M : Mth F) (h : F.Ok) (ln : n < S.length) (ht : TOk k0 t) (hk : k0 + 2000 < 1000000000) (hlap : 0 ≤ lap ∧ lap ≤ 1) (ok : OkS (S.set n (tl t) ++ T)) :
    ∃ x x' t' T', mSeq (mSet 3 (mMut (mCallF cList (mCons (mCall g__law_any_face (mCons (mVar 0) (mCons (mVar 1) mNil))) mNil)))) (mSeq (mFor (mIter (mCall g__law_pick (mCons (mVar 0) (mCons (mImm (mListRg (mBin fIx (mVar 1) (mC (.int 0))))) (mCons (mBin fMulA (mVar 2) (mBin fAdd (mC (.int 1)) (mCall g__law_take (mCons (mVar 0) (mCons (mC (.int 3)) mNil))))) mNil))))) (nName 4) (mAsgG (gSubD (mVar 3) (mVar 4)) (mTup (mCons (mCall g__law_take (mCons (mVar 0) (mCons (mBin fIx (mVar 1) (mC (.int 2))) mNil))) (mCons (mCall g__law_note (mCons (mVar 0) mNil)) mNil))))) (mIfS (mtNot (mTst (mCall g__law_judged_right (mCons (mVar 0) (mCons (mVar 1) (mCons (mCall cTuple (mCons (mVar 3) mNil)) mNil)))))) (mRet (mC (.bool false))) mNext))
      [some (.ref n), some (.d (eF F)), some (.d (.int lap)), x3, x4, none, none, none, none] (S.set n (tl t) ++ T) = some (Fl.nx [some (.ref n), some (.d (eF F)), some (.d (.int lap)), x, x', none, none, none, none], S.set n (tl t') ++ T') ∧ OkS (S.set n (tl t') ++ T') ∧ TOk (k0 + 1000) t' := by
  have h6 := h.c6
  have gtT : ∀ (t : Tin) (T : Sto), (S.set n (tl t) ++ T)[n]? = some (tl t) := fun t T => by rw [List.getElem?_append_left (by simp; omega), List.getElem?_set_self ln]
  have stT : ∀ (t t' : Tin) (T : Sto), (S.set n (tl t) ++ T).set n (tl t') = S.set n (tl t') ++ T := fun t t' T => by rw [set_appT (by simp; omega), List.set_set]
  have gt2 : ∀ (t : Tin) (P : Pic), (S.set n (tl t) ++ T ++ [cw P])[n]? = some (tl t) := fun t P => by rw [List.append_assoc]; exact gtT t _
  have st2 : ∀ (t t' : Tin) (P : Pic), (S.set n (tl t) ++ T ++ [cw P]).set n (tl t') = S.set n (tl t') ++ T ++ [cw P] := fun t t' P => by rw [List.append_assoc, stT, List.append_assoc]
  obtain ⟨P, t1, e1, ok1, hP⟩ := v_any_face ok h (gtT t T) ht (by omega)
  rw [stT] at e1
  have oks : ∀ t1 : Tin, OkS (S.set n (tl t1) ++ T) := fun t1 => by
    have := ok.tin (n := n) (t := t1)
    rw [stT] at this
    exact this
  have e0 : mSet 3 (mMut (mCallF cList (mCons (mCall g__law_any_face (mCons (mVar 0) (mCons (mVar 1) mNil))) mNil))) [some (.ref n), some (.d (eF F)), some (.d (.int lap)), x3, x4, none, none, none, none] (S.set n (tl t) ++ T) = some (Fl.nx [some (.ref n), some (.d (eF F)), some (.d (.int lap)), some (.ref (S.length + T.length)), x4, none, none, none, none], S.set n (tl t1) ++ T ++ [cw P]) := by
    refine (mSet_v (mMut_v ((mCallF_v (mCons_v (cl rfl e1) rfl)).trans (cList_tup P)))).trans ?_
    have : (S.set n (tl t1) ++ T).length = S.length + T.length := by simp
    rw [this]
    rfl
  obtain ⟨v, t2, e2, ok2, v0, v1⟩ := v_take (S := S.set n (tl t1) ++ T ++ [cw P]) (r := 3) (gt2 t1 P) ok1 (by omega) (by omega) (by omega)
  rw [st2] at e2
  have lc : 0 ≤ lap * (1 + v) ∧ lap * (1 + v) < 10 := by
    rcases (show lap = 0 ∨ lap = 1 by omega) with rfl | rfl <;> omega
  have lr : (rng 0 (F.c : Nat)).length = F.c := by rw [rng_length]; omega
  obtain ⟨l, t3, e3, ok3, hsub, hll⟩ := v_pick (S := S.set n (tl t2) ++ T ++ [cw P]) (goods := rng 0 (F.c : Nat)) (okS_pic (oks t2)) (gt2 t2 P) ok2 (by omega) (by omega) (lap * (1 + v)) (by omega) lc.1
  rw [st2] at e3
  have gi : (List.range F.c).map (fun (i : Nat) => Wv.d (.int (i : Int))) = (eIs (rng 0 (F.c : Nat))).map .d := by
    unfold eIs rng
    rw [List.map_map, List.map_map]
    have : ((F.c : Int) - 0).toNat = F.c := by omega
    rw [this]
    apply List.map_congr_left
    intro i _
    simp
  have em : mIter (mCall g__law_pick (mCons (mVar 0) (mCons (mImm (mListRg (mBin fIx (mVar 1) (mC (.int 0))))) (mCons (mBin fMulA (mVar 2) (mBin fAdd (mC (.int 1)) (mCall g__law_take (mCons (mVar 0) (mCons (mC (.int 3)) mNil))))) mNil)))) [some (.ref n), some (.d (eF F)), some (.d (.int lap)), some (.ref (S.length + T.length)), x4, none, none, none, none] (S.set n (tl t1) ++ T ++ [cw P]) = some ((((eIs l).map Wv.d).length, gS (.d (.list (eIs l)))), S.set n (tl t3) ++ T ++ [cw P]) := by
    have er : mImm (mListRg (mBin fIx (mVar 1) (mC (.int 0)))) [some (.ref n), some (.d (eF F)), some (.d (.int lap)), some (.ref (S.length + T.length)), x4, none, none, none, none] (S.set n (tl t1) ++ T ++ [cw P]) = some (.d (.list (eIs (rng 0 (F.c : Nat)))), S.set n (tl t1) ++ T ++ [cw P]) := by
      refine mImm_v ?_
      show (if 0 ≤ (F.c : Int) ∧ (F.c : Int) ≤ 1000000 then some ((List.range (F.c : Int).toNat).map fun (i : Nat) => Wv.d (.int (i : Int)), S.set n (tl t1) ++ T ++ [cw P]) else none) = _
      rw [if_pos (by omega), Int.toNat_natCast, gi]
    unfold mIter
    rw [cl (f := g__law_pick) (mCons_v rfl (mCons_v er (mCons_v (mBin_v rfl (mBin_v rfl (cl rfl e2) rfl) (mulC lap (1 + v) (.inl (by omega)))) rfl))) e3]
    rfl
  have hks : ∀ x ∈ l, 0 ≤ x ∧ x < F.c := fun x hx => by
    have := mem_rng.mp (hsub x hx)
    omega
  have src : Src (fun _ S => some ((((eIs l).map Wv.d).length, gS (.d (.list (eIs l)))), S)) [some (.ref n), some (.d (eF F)), some (.d (.int lap)), some (.ref (S.length + T.length)), x4, none, none, none, none] (S.set n (tl t3) ++ T ++ [cw P]) (l.map fun i => .d (.int i)) (fun _ => True) := by
    refine ⟨gS (.d (.list (eIs l))), ?_, fun S' i _ _ => ?_⟩
    · rw [show (l.map fun i => Wv.d (.int i)) = (eIs l).map .d from iw_eq l]
    · rw [show (l.map fun i => Wv.d (.int i)) = (eIs l).map .d from iw_eq l]
      rfl
  obtain ⟨x, P', t4, e4, hP', ok4⟩ := pick_loop (x1 := some (.d (.int lap))) (x2 := x4) (T := T) (ks := l) h ln hP ok3 (by omega) hks (by omega) rfl src
  have okS4 := okS_pic (P := P') (oks t4)
  have gf : (S.set n (tl t4) ++ T ++ [cw P'])[S.length + T.length]? = some (cw P') := by
    have e : S.length + T.length = (S.set n (tl t4) ++ T).length := by simp
    rw [e]
    exact get_last
  obtain ⟨t5, e5, ok5⟩ := v_judged M okS4 h hP' (gt2 t4 P') ok4 (by omega)
  rw [st2] at e5
  refine ⟨some (.ref (S.length + T.length)), x, t5, T ++ [cw P'], seq e0 (seq ((for_shift em).trans e4) ((mIfS_f (S' := S.set n (tl t5) ++ (T ++ [cw P'])) (mtNot_b (p := true) (mTst_b (cl (mCons_v rfl (mCons_v rfl (mCons_v (cl rfl (tuple_ref_pic gf)) rfl))) (e5.trans (by rw [List.append_assoc])))))).trans rfl)), ?_, ok5.mono (by omega)⟩
  rw [← List.append_assoc]
  exact okS_pic (oks t5)
end
end K15
set_option Elab.async false
set_option linter.all false
set_option maxRecDepth 100000
set_option maxHeartbeats 4000000
set_option autoImplicit false
namespace K15
open PySem PySem.Spec PyProof.Rows L2
section
variable {S S1 : Sto} {δ δ' : DEnv} {F : Fm} {P : Pic} {w : Wv}
theorem mIfS_seq_f {a r : MS} {c : MT} {S' : Sto} {x : Option (Fl × Sto)} (h : c δ S = some (false, S')) (hr : r δ S' = x) : mSeq (mIfS c a mNext) r δ S = x := (mSeq_nx ((mIfS_f h).trans rfl)).trans hr
theorem laps {n : Nat} {t : Tin} (M : Mth F) (h : F.Ok) (ln : n < S.length) (ok : OkS (S.set n (tl t))) (ht : TOk 3 t) :
    ∃ x y z t' T', mFor (mRange1 (mC (.int 2))) (nName 2) (mSeq (mSet 3 (mMut (mCallF cList (mCons (mCall g__law_any_face (mCons (mVar 0) (mCons (mVar 1) mNil))) mNil)))) (mSeq (mFor (mIter (mCall g__law_pick (mCons (mVar 0) (mCons (mImm (mListRg (mBin fIx (mVar 1) (mC (.int 0))))) (mCons (mBin fMulA (mVar 2) (mBin fAdd (mC (.int 1)) (mCall g__law_take (mCons (mVar 0) (mCons (mC (.int 3)) mNil))))) mNil))))) (nName 4) (mAsgG (gSubD (mVar 3) (mVar 4)) (mTup (mCons (mCall g__law_take (mCons (mVar 0) (mCons (mBin fIx (mVar 1) (mC (.int 2))) mNil))) (mCons (mCall g__law_note (mCons (mVar 0) mNil)) mNil))))) (mIfS (mtNot (mTst (mCall g__law_judged_right (mCons (mVar 0) (mCons (mVar 1) (mCons (mCall cTuple (mCons (mVar 3) mNil)) mNil)))))) (mRet (mC (.bool false))) mNext)))
      [some (.ref n), some (.d (eF F)), none, none, none, none, none, none, none] (S.set n (tl t)) = some (Fl.nx [some (.ref n), some (.d (eF F)), x, y, z, none, none, none, none], S.set n (tl t') ++ T') ∧ OkS (S.set n (tl t') ++ T') ∧ TOk 5000 t' := by
  obtain ⟨δ2, S2, e2, x, y, z, t', T', rfl, rfl, ok', tok⟩ := for_inv (n := nName 2) (mi := mRange1 (mC (.int 2)))
    (b := mSeq (mSet 3 (mMut (mCallF cList (mCons (mCall g__law_any_face (mCons (mVar 0) (mCons (mVar 1) mNil))) mNil)))) (mSeq (mFor (mIter (mCall g__law_pick (mCons (mVar 0) (mCons (mImm (mListRg (mBin fIx (mVar 1) (mC (.int 0))))) (mCons (mBin fMulA (mVar 2) (mBin fAdd (mC (.int 1)) (mCall g__law_take (mCons (mVar 0) (mCons (mC (.int 3)) mNil))))) mNil))))) (nName 4) (mAsgG (gSubD (mVar 3) (mVar 4)) (mTup (mCons (mCall g__law_take (mCons (mVar 0) (mCons (mBin fIx (mVar 1) (mC (.int 2))) mNil))) (mCons (mCall g__law_note (mCons (mVar 0) mNil)) mNil))))) (mIfS (mtNot (mTst (mCall g__law_judged_right (mCons (mVar 0) (mCons (mVar 1) (mCons (mCall cTuple (mCons (mVar 3) mNil)) mNil)))))) (mRet (mC (.bool false))) mNext)))
    (δ := [some (.ref n), some (.d (eF F)), none, none, none, none, none, none, none]) (S := S.set n (tl t)) (rng 0 2) (fun i => .d (.int i))
    (fun p δ' S' => ∃ x y z t' T', δ' = [some (.ref n), some (.d (eF F)), x, y, z, none, none, none, none] ∧ S' = S.set n (tl t') ++ T' ∧ OkS (S.set n (tl t') ++ T') ∧ TOk (3 + 1000 * p.length) t') (J := fun _ => True)
    (src_range1 (b := mC (.int 2)) (j := 2) rfl (by omega)) (fun _ _ _ _ => trivial) (by
      rintro p i r δ1 S1 hx ⟨x, y, z, t1, T1, rfl, rfl, ok1, tok1⟩
      have hi := mem_rng.mp (show i ∈ rng 0 2 by rw [hx]; simp)
      have hl : p.length ≤ 1 := by
        have := congrArg List.length hx
        rw [rng_length, List.length_append, List.length_cons] at this
        omega
      obtain ⟨x', y', t2, T2, e2, ok2, tok2⟩ := v_lap_turn (x3 := y) (x4 := z) (lap := i) M h ln tok1 (by omega) (by omega) ok1
      exact ⟨_, _, _, rfl, e2, some (.d (.int i)), x', y', t2, T2, rfl, rfl, ok2, tok2.mono (by rw [List.length_append, List.length_singleton]; omega)⟩) ⟨none, none, none, t, [], rfl, by simp, by simpa using ok, ht⟩
  refine ⟨x, y, z, t', T', e2, ok', tok.mono ?_⟩
  rw [rng_length]
  omega
end
end K15
set_option Elab.async false
set_option linter.all false
set_option maxRecDepth 100000
set_option maxHeartbeats 4000000
set_option autoImplicit false
namespace K15
open PySem PySem.Spec PyProof.Rows L2
section
variable {S S1 : Sto} {δ δ' : DEnv} {F : Fm} {P : Pic} {w : Wv}
theorem v_right_tail {n k : Nat} {t : Tin} {x z : Option Wv} {L : List Ev} {wd : Wv} (M : Mth F) (ok : OkS S) (h : F.Ok) (hn : S[n]? = some (tl t)) (ht : TOk k t) (hk : k + 1000 < 1000000000) (hb : behindN F L = some P) (hL : ∀ e ∈ L, EvOk e) :
    ∃ t', (mSeq (mSet 7 (mImm (mLst (mCons (mCall g_can_lie (mCons (mVar 1) (mCons (mVar 3) mNil))) (mCons (mCall g_is_life_to (mCons (mVar 1) (mCons (mVar 3) (mCons (mVar 6) mNil)))) (mCons (mCallK g_is_life_to g3 (mCons (mVar 6) (mCons (mCall g__law_lists (mCons (mVar 3) mNil)) (mCons (mVar 1) mNil)))) mNil)))))) (mSeq (mIfS (mtOr (mtNot (mTst (mCall g__law_same (mCons (mVar 7) (mCons (mImm (mBinF fRep (mImm (mLst (mCons (mC (.bool true)) mNil))) (mC (.int 3)))) mNil))))) (mtNot (mTst (mCall g__law_judged_right (mCons (mVar 0) (mCons (mVar 1) (mCons (mVar 3) mNil))))))) (mRet (mC (.bool false))) mNext) (mSeq (mSet 8 (mCall g__law_any_face (mCons (mVar 0) (mCons (mVar 1) mNil)))) (mRet (mCall g__law_same (mCons (mCall g_is_life_to (mCons (mVar 1) (mCons (mVar 8) (mCons (mVar 6) mNil)))) (mCons (mCall g__law_same (mCons (mVar 8) (mCons (mVar 3) mNil))) mNil)))))))
      [some (.ref n), some (.d (eF F)), x, some (.d (eP P)), z, some wd, some (.d (eL L)), none, none] S = some (.rt (.d (.bool true)), S.set n (tl t')) := by
  obtain ⟨can, hp⟩ := M.lie P L hb
  have life : ∀ Q, PicOk F Q → isLifeN F Q L = decide (P = Q) := fun Q hq => by
    rw [M.life Q L hq, hb]
    simp
  have h6 := h.c6
  have ln := get_lt hn
  have hl := hp.len
  -- the three answers
  have e1 : mCall g_can_lie (mCons (mVar 1) (mCons (mVar 3) mNil)) [some (.ref n), some (.d (eF F)), x, some (.d (eP P)), z, some wd, some (.d (eL L)), none, none] S = some (.d (.bool true), S) := by
    refine (cl rfl (v_can_lie_of ok h hl (v_sure_both h hp))).trans ?_
    rw [can]
  have e2 : mCall g_is_life_to (mCons (mVar 1) (mCons (mVar 3) (mCons (mVar 6) mNil))) [some (.ref n), some (.d (eF F)), x, some (.d (eP P)), z, some wd, some (.d (eL L)), none, none] S = some (.d (.bool true), S) := by
    refine (cl rfl (v_is_life_to_of ok h (v_sure_both h hp) L hL)).trans ?_
    rw [life P hp]
    simp
  have e3 : mCallK g_is_life_to g3 (mCons (mVar 6) (mCons (mCall g__law_lists (mCons (mVar 3) mNil)) (mCons (mVar 1) mNil))) [some (.ref n), some (.d (eF F)), x, some (.d (eP P)), z, some wd, some (.d (eL L)), none, none] S = some (.d (.bool true), S) := by
    unfold mCallK
    rw [mCons_v (w := .d (eL L)) (S1 := S) rfl (mCons_v (cl (f := g__law_lists) rfl (v_lists_P P (by omega))) (mCons_v rfl rfl)), Option.bind_some]
    refine (show g_is_life_to [.d (eF F), .d (lP P), .d (eL L)] S = _ from (v_is_life_to_of ok h (v_sure_both2 h hp) L hL)).trans ?_
    rw [life P hp]
    simp
  have e4 : mSet 7 (mImm (mLst (mCons (mCall g_can_lie (mCons (mVar 1) (mCons (mVar 3) mNil))) (mCons (mCall g_is_life_to (mCons (mVar 1) (mCons (mVar 3) (mCons (mVar 6) mNil)))) (mCons (mCallK g_is_life_to g3 (mCons (mVar 6) (mCons (mCall g__law_lists (mCons (mVar 3) mNil)) (mCons (mVar 1) mNil)))) mNil))))) [some (.ref n), some (.d (eF F)), x, some (.d (eP P)), z, some wd, some (.d (eL L)), none, none] S = some (Fl.nx [some (.ref n), some (.d (eF F)), x, some (.d (eP P)), z, some wd, some (.d (eL L)), some (.d (.list ([true, true, true].map PyData.bool))), none], S) := by
    refine mSet_v (mImm_v ?_)
    unfold mLst
    rw [mCons_v e1 (mCons_v e2 (mCons_v e3 rfl))]
    rfl
  have e5 : mImm (mBinF fRep (mImm (mLst (mCons (mC (.bool true)) mNil))) (mC (.int 3))) [some (.ref n), some (.d (eF F)), x, some (.d (eP P)), z, some wd, some (.d (eL L)), some (.d (.list ([true, true, true].map PyData.bool))), none] S = some (.d (.list ([true, true, true].map PyData.bool)), S) := by kernel_rfl
  obtain ⟨t2, e6, ok6⟩ := v_judged M ok h hp hn ht (by omega)
  have g6 : (S.set n (tl t2))[n]? = some (tl t2) := List.getElem?_set_self ln
  obtain ⟨Q, t3, e7, ok7, hq⟩ := v_any_face ok.tin h g6 ok6 (by omega)
  rw [List.set_set] at e7
  have okS3 : OkS (S.set n (tl t3)) := ok.tin
  refine ⟨t3, seq e4 (mIfS_seq_f (S' := S.set n (tl t2)) ((mtOr_f (mtNot_b (p := true) (mTst_b (cl (mCons_v rfl (mCons_v e5 rfl)) (same_bools seqd_list (by simp)))))).trans (mtNot_b (p := true) (mTst_b (cl rfl e6)))) (seq (mSet_v (cl rfl e7)) (mRet_w ?_)))⟩
  have e8 : mCall g_is_life_to (mCons (mVar 1) (mCons (mVar 8) (mCons (mVar 6) mNil))) [some (.ref n), some (.d (eF F)), x, some (.d (eP P)), z, some wd, some (.d (eL L)), some (.d (.list ([true, true, true].map PyData.bool))), some (.d (eP Q))] (S.set n (tl t3)) = some (.d (.bool (decide (P = Q))), S.set n (tl t3)) := by
    refine (cl rfl (v_is_life_to_of okS3 h (v_sure_both h hq) L hL)).trans ?_
    rw [life Q hq]
  have e9 : mCall g__law_same (mCons (mVar 8) (mCons (mVar 3) mNil)) [some (.ref n), some (.d (eF F)), x, some (.d (eP P)), z, some wd, some (.d (eL L)), some (.d (.list ([true, true, true].map PyData.bool))), some (.d (eP Q))] (S.set n (tl t3)) = some (.d (.bool (decide (P = Q))), S.set n (tl t3)) := by
    refine (cl rfl (same_behind h hp (some Q))).trans ?_
    have : decide (some Q = some P) = decide (P = Q) := by
      rw [Bool.eq_iff_iff, decide_eq_true_iff, decide_eq_true_iff]
      constructor
      · intro z; exact (Option.some.inj z).symm
      · intro z; rw [z]
    rw [this]
  exact cl (mCons_v e8 (mCons_v e9 rfl)) (same_bool _)
theorem v_right {n : Nat} {t : Tin} (M : ∀ F : Fm, F.Ok → Mth F) (ok : OkS S) (hn : S[n]? = some (tl t)) (ht : TOk 0 t) : ∃ t', g__law_right [.ref n] S = some (.d (.bool true), S.set n (tl t')) := by
  have ln := get_lt hn
  obtain ⟨F, t1, e1, ok1, hF⟩ := v_any_form hn ht (by omega)
  obtain ⟨x, y, z, t2, T, e2, okS2, ok2⟩ := laps (M F hF) hF ln ok.tin ok1
  have hset : ∀ t', (S.set n (tl t2) ++ T).set n (tl t') = S.set n (tl t') ++ T := fun t' => by rw [set_appT (by simp; omega), List.set_set]
  have g2 : (S.set n (tl t2) ++ T)[n]? = some (tl t2) := by rw [List.getElem?_append_left (by simp; omega), List.getElem?_set_self ln]
  generalize S.set n (tl t2) ++ T = S2 at e2 okS2 hset g2
  have ln2 := get_lt g2
  obtain ⟨v, t3, e3, ok3, v0, v1⟩ := v_take (r := 3) g2 ok2 (by omega) (by omega) (by omega)
  obtain ⟨F', t4, e4, ok4, hF'⟩ := v_form2 (S := S2.set n (tl t3)) (wd := 4 + v) (δ := [some (.ref n), some (.d (eF F)), x, y, z, some (.d (.int (4 + v))), none, none, none]) (List.getElem?_set_self ln2) ok3 (by omega) (by omega) (by omega) rfl (fun _ => rfl) (fun _ => rfl)
  rw [List.set_set] at e4
  obtain ⟨L, P, t5, e5, ok5, hb, hL, _⟩ := v_drawn_life (S := S2.set n (tl t4)) okS2.tin hF' (List.getElem?_set_self ln2) ok4 (by omega)
  rw [List.set_set] at e5
  obtain ⟨t6, e6⟩ := v_right_tail (S := S2.set n (tl t5)) (x := x) (z := z) (wd := .d (.int (4 + v))) (M F' hF') okS2.tin hF' (List.getElem?_set_self ln2) ok5 (by omega) hb hL
  rw [List.set_set] at e6
  refine ⟨t6, trim_d (S1 := S.set n (tl t6)) (T := T) ?_ (by simp) ok.tin⟩
  rw [← hset]
  exact sem_rt (seq (mSet_v (cl rfl e1)) (seq e2 (seq (mSet_v (mBin_v rfl (cl rfl e3) rfl)) (seq (mSet_v e4) (seq (asgN_v (l := [(6, .d (eL L)), (3, .d (eP P))]) (cl rfl e5) rfl) e6)))))
end
end K15
set_option Elab.async false
set_option linter.all false
set_option maxRecDepth 100000
set_option maxHeartbeats 4000000
set_option autoImplicit false
namespace K15
open PySem PySem.Spec PyProof.Rows L2
theorem rng_at (a b : Int) (i : Nat) : (rng a b)[i]? = if i < (b - a).toNat then some (a + (i : Int)) else none := by
  unfold rng
  rw [List.getElem?_map]
  by_cases h : i < (b - a).toNat
  · rw [List.getElem?_range h, if_pos h]; rfl
  · rw [List.getElem?_eq_none (by simp; omega), if_neg h]; rfl
theorem rng_split {a b c : Int} (h1 : a ≤ b) (h2 : b ≤ c) : rng a c = rng a b ++ rng b c := by
  apply List.ext_getElem?
  intro i
  rw [List.getElem?_append, rng_length, rng_at, rng_at, rng_at]
  by_cases hb : i < (b - a).toNat
  · rw [if_pos hb, if_pos hb, if_pos (by omega)]
  · rw [if_neg hb]
    by_cases hc : i < (c - a).toNat
    · rw [if_pos hc, if_pos (by omega)]
      congr 1
      omega
    · rw [if_neg hc, if_neg (by omega)]
theorem barsU_eq {F : Fm} (h : F.Ok) (P : Pic) (s : Int) : barsGU F P s = barsU F P s := by
  have hc := h.c2
  have hd := h.dc
  unfold barsGU barsU winN fliN
  rw [rng_split (a := s - F.c + F.d) (b := s) (c := s + F.d) (by omega) (by omega), List.filterMap_append]
  congr 1
  · apply fm_congr
    intro n hn
    have hn := (mem_rng.mp hn).2
    have : decide (s ≤ n) = false := decide_eq_false (by omega)
    rw [this]
    cases shows F P n <;> simp
  · apply fm_congr
    intro n hn
    have hn := (mem_rng.mp hn).1
    have : decide (s ≤ n) = true := decide_eq_true (by omega)
    rw [this]
    cases shows F P n <;> cases shows F P (n - F.c) <;> cases (decide (cellAt F P n = none)) <;> simp
theorem barsGN {F : Fm} (h : F.Ok) (P : Pic) (s : Int) : barsG F P s = barsN F P s := by
  unfold barsG barsN
  rw [barsU_eq h]
theorem allN_get {F : Fm} (h : F.Ok) (P : Pic) {i : Nat} (hi : (i : Int) < F.t) : (allN F P)[i]? = some (barsN F P i) := by
  unfold allN rng
  rw [List.map_map, List.getElem?_map, List.getElem?_range (by omega)]
  simp
theorem zip_all_iff {α β : Type} (p : α × β → Bool) (l : List α) (m : List β) (hl : l.length = m.length) : (l.zip m).all p = true ↔ ∀ (i : Nat) (a : α) (b : β), l[i]? = some a → m[i]? = some b → p (a, b) = true := by
  rw [List.all_eq_true]
  constructor
  · intro h i a b ha hb
    refine h (a, b) ?_
    rw [List.mem_iff_getElem?]
    exact ⟨i, by rw [List.getElem?_zip_eq_some]; exact ⟨ha, hb⟩⟩
  · intro h x hx
    obtain ⟨i, hi⟩ := List.mem_iff_getElem?.mp hx
    rw [List.getElem?_zip_eq_some] at hi
    exact h i x.1 x.2 hi.1 hi.2
theorem isReason_iff {F : Fm} (h : F.Ok) (P : Pic) (ws : List Int) : isReasonN F P ws = true ↔ (ws.length : Int) = F.t ∧ ∀ (i : Nat) (a : Int), ws[i]? = some a → a ∈ barsN F P i := by
  have ht := h.tle
  unfold isReasonN
  rw [Bool.and_eq_true, decide_eq_true_iff]
  constructor
  · rintro ⟨h1, h2⟩
    refine ⟨h1, fun i a ha => ?_⟩
    rw [zip_all_iff _ _ _ (by rw [allN_len]; omega)] at h2
    have hi := (List.getElem?_eq_some_iff.mp ha).1
    exact of_decide_eq_true (h2 i a _ ha (allN_get h P (by omega)))
  · rintro ⟨h1, h2⟩
    refine ⟨h1, ?_⟩
    rw [zip_all_iff _ _ _ (by rw [allN_len]; omega)]
    intro i a b ha hb
    have hi := (List.getElem?_eq_some_iff.mp ha).1
    rw [allN_get h P (by omega)] at hb
    cases hb
    exact decide_eq_true (h2 i a ha)
theorem isReasonG_iff {F : Fm} (h : F.Ok) (P : Pic) (ws : List Int) : isReasonG F P ws = true ↔ (ws.length : Int) = F.t ∧ ∀ (i : Nat) (a : Int), ws[i]? = some a → a ∈ barsN F P i := by
  unfold isReasonG
  rw [Bool.and_eq_true, decide_eq_true_iff, List.all_eq_true]
  constructor
  · rintro ⟨h1, h2⟩
    refine ⟨h1, fun i a ha => ?_⟩
    have hi := (List.getElem?_eq_some_iff.mp ha).1
    have := of_decide_eq_true (h2 (i : Int) (mem_rng.mpr ⟨by omega, by omega⟩))
    rw [Int.toNat_natCast, ha, barsGN h] at this
    exact this
  · rintro ⟨h1, h2⟩
    refine ⟨h1, fun n hn => ?_⟩
    obtain ⟨n0, n1⟩ := mem_rng.mp hn
    have hi : n.toNat < ws.length := by omega
    have e : ws[n.toNat]? = some ws[n.toNat] := List.getElem?_eq_getElem hi
    have := h2 n.toNat _ e
    rw [e, barsGN h]
    rw [show ((n.toNat : Nat) : Int) = n by omega] at this
    exact decide_eq_true this
theorem mth_reas {F : Fm} (h : F.Ok) (P : Pic) (ws : List Int) : isReasonG F P ws = isReasonN F P ws := by
  rw [Bool.eq_iff_iff, isReason_iff h, isReasonG_iff h]
theorem mth_why {F : Fm} (h : F.Ok) (P : Pic) (hc : canN F P = false) : isReasonN F P (reasonN F P) = true := by
  have ht := h.tle
  rw [isReason_iff h]
  have hl : (reasonN F P).length = F.t.toNat := by unfold reasonN; rw [List.length_map, allN_len]
  refine ⟨by omega, fun i a ha => ?_⟩
  have hi := (List.getElem?_eq_some_iff.mp ha).1
  unfold reasonN at ha
  rw [List.getElem?_map, allN_get h P (by omega), Option.map_some] at ha
  have hne : barsN F P i ≠ [] := by
    intro e
    unfold canN at hc
    rw [List.any_eq_false] at hc
    refine hc (barsN F P i) ?_ (decide_eq_true e)
    exact List.mem_of_getElem? (allN_get h P (by omega))
  cases hb : barsN F P i with
  | nil => exact (hne hb).elim
  | cons x l =>
    rw [hb] at ha
    cases ha
    simp
end K15
set_option Elab.async false
set_option linter.all false
set_option maxRecDepth 100000
set_option maxHeartbeats 4000000
set_option autoImplicit false
namespace K15
open PySem PySem.Spec PyProof.Rows L2
/-! ### places are wholes -/
theorem runN_iff (F : Fm) (P : Pic) : ∀ (K : Nat) (s : Int) (k : Nat), k ≤ runN F P s K ↔ k ≤ K ∧ ∀ j : Int, 1 ≤ j → j ≤ k → shows F P (s - j) = true
  | 0, s, k => by
    unfold runN
    constructor
    · intro h
      exact ⟨h, fun j h1 h2 => by omega⟩
    · exact fun h => h.1
  | K + 1, s, k => by
    unfold runN
    cases hs : shows F P (s - 1) with
    | false =>
      rw [if_neg Bool.false_ne_true]
      constructor
      · intro h
        exact ⟨by omega, fun j h1 h2 => by omega⟩
      · rintro ⟨h1, h2⟩
        by_cases hk : k = 0
        · omega
        · have := h2 1 (by omega) (by omega)
          rw [hs] at this
          cases this
    | true =>
      rw [if_pos rfl]
      cases k with
      | zero => exact ⟨fun _ => ⟨by omega, fun j h1 h2 => by omega⟩, fun _ => by omega⟩
      | succ k =>
        have ih := runN_iff F P K (s - 1) k
        constructor
        · intro h
          obtain ⟨h1, h2⟩ := ih.mp (by omega)
          refine ⟨by omega, fun j j1 j2 => ?_⟩
          by_cases hj : j = 1
          · rw [hj]; exact hs
          · have := h2 (j - 1) (by omega) (by omega)
            rw [show s - 1 - (j - 1) = s - j by omega] at this
            exact this
        · rintro ⟨h1, h2⟩
          have := ih.mpr ⟨by omega, fun j j1 j2 => by
            have := h2 (j + 1) (by omega) (by omega)
            rw [show s - (j + 1) = s - 1 - j by omega] at this
            exact this⟩
          omega
theorem wholeN_iff (F : Fm) (P : Pic) (n : Int) : wholeN F P n = true ↔ ∀ j : Int, 1 ≤ j → j ≤ (F.c : Int) - F.d → shows F P (n - j) = true := by
  unfold wholeN
  rw [List.all_eq_true]
  constructor
  · intro h j h1 h2
    exact h j (mem_rng.mpr ⟨h1, by omega⟩)
  · intro h j hj
    obtain ⟨h1, h2⟩ := mem_rng.mp hj
    exact h j h1 (by omega)
theorem rng_snoc {a b : Int} (h : a ≤ b) : rng a (b + 1) = rng a b ++ [b] := by
  rw [rng_split (b := b) h (by omega)]
  congr 1
  unfold rng
  rw [show (b + 1 - b).toNat = 1 by omega]
  simp
theorem placesN_eq {F : Fm} (h : F.Ok) (P : Pic) : placesN F P = wholesN F P := by
  have hc := h.c2
  have hd := h.dc
  have ht := h.tle
  have key : ∀ n : Nat, ((rng 0 (n : Int)).foldl (plStep F P) ([], (runN F P 0 F.c : Nat))).1 = (rng 0 (n : Int)).filterMap (fun n => if wholeN F P n = true then some n else none) ∧
      0 ≤ ((rng 0 (n : Int)).foldl (plStep F P) ([], (runN F P 0 F.c : Nat))).2 ∧
      ∀ k : Int, 0 ≤ k → k ≤ (F.c : Int) - F.d → (k ≤ ((rng 0 (n : Int)).foldl (plStep F P) ([], (runN F P 0 F.c : Nat))).2 ↔ ∀ j : Int, 1 ≤ j → j ≤ k → shows F P (n - j) = true) := by
    intro n
    induction n with
    | zero =>
      refine ⟨rfl, ?_, fun k h0 h1 => ?_⟩
      · show (0 : Int) ≤ ((runN F P 0 F.c : Nat) : Int)
        omega
      · show k ≤ ((runN F P 0 F.c : Nat) : Int) ↔ _
        have := runN_iff F P F.c 0 k.toNat
        constructor
        · intro hk j j1 j2
          exact (this.mp (by omega)).2 j j1 (by omega)
        · intro hj
          have := this.mpr ⟨by omega, fun j j1 j2 => hj j j1 (by omega)⟩
          omega
    | succ n ih =>
      obtain ⟨e1, e2, e3⟩ := ih
      rw [show ((n + 1 : Nat) : Int) = (n : Int) + 1 by omega, rng_snoc (by omega), List.foldl_append, List.filterMap_append]
      generalize (rng 0 (n : Int)).foldl (plStep F P) ([], (runN F P 0 F.c : Nat)) = a at e1 e2 e3
      have hw : decide ((F.c : Int) - F.d ≤ a.2) = wholeN F P n := by
        rw [Bool.eq_iff_iff, decide_eq_true_iff, wholeN_iff]
        exact e3 _ (by omega) (Int.le_refl _)
      refine ⟨?_, ?_, ?_⟩
      · show (plStep F P a n).1 = _
        unfold plStep
        dsimp only
        rw [← e1]
        cases hv : wholeN F P n with
        | true =>
          rw [hv] at hw
          rw [if_pos (of_decide_eq_true hw)]
          simp [hv]
        | false =>
          rw [hv] at hw
          rw [if_neg (of_decide_eq_false hw)]
          simp [hv]
      · show 0 ≤ (plStep F P a n).2
        unfold plStep
        dsimp only
        split <;> omega
      · intro k h0 h1
        show k ≤ (plStep F P a n).2 ↔ _
        unfold plStep
        dsimp only
        cases hs : shows F P n with
        | false =>
          rw [if_neg Bool.false_ne_true]
          constructor
          · intro hk j j1 j2
            omega
          · intro hj
            by_cases hk : k = 0
            · omega
            · have := hj 1 (by omega) (by omega)
              rw [show (n : Int) + 1 - 1 = n by omega, hs] at this
              cases this
        | true =>
          rw [if_pos rfl]
          by_cases hk : k = 0
          · exact ⟨fun _ j j1 j2 => by omega, fun _ => by omega⟩
          · have := e3 (k - 1) (by omega) (by omega)
            constructor
            · intro hk2 j j1 j2
              by_cases hj : j = 1
              · rw [hj, show (n : Int) + 1 - 1 = n by omega]
                exact hs
              · have := this.mp (by omega) (j - 1) (by omega) (by omega)
                rw [show (n : Int) - (j - 1) = n + 1 - j by omega] at this
                exact this
            · intro hj
              have := this.mpr (fun j j1 j2 => by
                have := hj (j + 1) (by omega) (by omega)
                rw [show (n : Int) + 1 - (j + 1) = n - j by omega] at this
                exact this)
              omega
  have := (key F.t.toNat).1
  rw [show ((F.t.toNat : Nat) : Int) = F.t by omega] at this
  unfold placesN wholesN
  exact this
theorem answer_eq {F : Fm} (h : F.Ok) (P : Pic) : answerP F P = answerG F P := by
  unfold answerP answerG
  rw [placesN_eq h]
/-! ### marks and places, periodic -/
theorem tpos {F : Fm} (h : F.Ok) : 0 < F.t := by have := h.tle; omega
theorem emod_t_c {F : Fm} (h : F.Ok) (p : Int) : p % F.t % F.c = p % F.c := by
  unfold Fm.t
  rw [Int.emod_emod_of_dvd _ (Int.dvd_mul_right _ _)]
theorem mark_add_t {F : Fm} (h : F.Ok) (n k : Int) : mark F (n + F.t * k) = mark F n := by
  have hc := h.c2
  unfold mark Fm.t
  rw [Int.mul_assoc, Int.add_mul_ediv_left _ _ (by omega), Int.add_mul_emod_self_left]
theorem mark_mod_t {F : Fm} (h : F.Ok) (p : Int) : mark F (p % F.t) = mark F p := by
  have := mark_add_t h (p % F.t) (p / F.t)
  rw [Int.emod_add_mul_ediv] at this
  exact this.symm
theorem mod_add_t {F : Fm} (n k : Int) : (n + F.t * k) % F.c = n % F.c := by
  unfold Fm.t
  rw [Int.mul_assoc, Int.add_mul_emod_self_left]
theorem shows_add_t {F : Fm} (h : F.Ok) (P : Pic) (n k : Int) : shows F P (n + F.t * k) = shows F P n := by
  unfold shows cellAt idx
  rw [mod_add_t, mark_add_t h]
theorem cellAt_add_t {F : Fm} (P : Pic) (n k : Int) : cellAt F P (n + F.t * k) = cellAt F P n := by
  unfold cellAt idx
  rw [mod_add_t]
/-! ### the two readings of a life -/
structure Sim (F : Fm) (s : Stn) (g : Gr) : Prop where
  P : s.P = g.P
  ws : s.ws = g.ws
  p : s.p = if g.aw then some (g.p % F.t) else none
  nil : g.aw = false → g.ws = []
theorem sim_step {F : Fm} (h : F.Ok) {s : Stn} {g : Gr} (r : Sim F s g) (e : Ev) : (stepN F s e = none ∧ wentN F g e = none) ∨ ∃ s' g', stepN F s e = some s' ∧ wentN F g e = some g' ∧ Sim F s' g' := by
  obtain ⟨P, ws, p, last⟩ := s
  obtain ⟨P', ws', p', aw, k⟩ := g
  obtain ⟨h1, h2, h3, h4⟩ := r
  dsimp only at h1 h2 h3 h4
  subst h1 h2
  cases aw with
  | true =>
    rw [if_pos rfl] at h3
    subst h3
    unfold stepN wentN
    dsimp only
    rw [if_pos rfl]
    unfold awakeN
    cases e with
    | write n =>
      refine .inr ⟨_, _, rfl, rfl, ?_⟩
      have e1 : (p' % F.t + 1) % F.t = (p' + 1) % F.t := by rw [Int.emod_add_emod]
      unfold logN writeG syncN
      dsimp only
      by_cases hl : ws.length = F.d
      · rw [if_pos hl, if_pos hl]
        dsimp only
        refine ⟨rfl, ?_, ?_, fun z => by cases z⟩
        · dsimp only
          rw [emod_t_c h, mark_mod_t h]
        · dsimp only
          rw [if_pos rfl, e1]
      · rw [if_neg hl, if_neg hl]
        dsimp only
        refine ⟨rfl, ?_, ?_, fun z => by cases z⟩
        · dsimp only
          rw [emod_t_c h, mark_mod_t h]
        · dsimp only
          rw [if_pos rfl, e1]
    | sync => exact .inr ⟨_, _, rfl, rfl, rfl, rfl, rfl, fun z => by cases z⟩
    | cut fs =>
      dsimp only
      by_cases hf : fs.length = ws.length
      · rw [if_pos hf, if_pos hf]
        exact .inr ⟨_, _, rfl, rfl, rfl, rfl, rfl, fun _ => rfl⟩
      · rw [if_neg hf, if_neg hf]
        exact .inl ⟨rfl, rfl⟩
    | wake => exact .inl ⟨rfl, rfl⟩
    | mend k fs => exact .inl ⟨rfl, rfl⟩
  | false =>
    rw [if_neg Bool.false_ne_true] at h3
    subst h3
    have hn := h4 rfl
    subst hn
    unfold stepN wentN
    dsimp only
    rw [if_neg Bool.false_ne_true]
    unfold asleepN
    rw [answer_eq h]
    cases ha : answerG F P with
    | none => exact .inl ⟨rfl, rfl⟩
    | some a =>
      have am := answerP_mem (F := F) (P := P) (a := a) (by rw [answer_eq h]; exact ha)
      cases e with
      | write n => exact .inl ⟨rfl, rfl⟩
      | sync => exact .inl ⟨rfl, rfl⟩
      | cut fs => exact .inl ⟨rfl, rfl⟩
      | wake =>
        refine .inr ⟨_, _, rfl, rfl, rfl, rfl, ?_, fun z => by cases z⟩
        dsimp only
        rw [if_pos rfl, Int.emod_eq_of_lt am.1 am.2]
      | mend k fs =>
        dsimp only
        by_cases hf : 0 ≤ k ∧ k ≤ ((mendN F P a).length : Nat) ∧ (fs.length : Int) = k
        · rw [if_pos hf, if_pos hf]
          exact .inr ⟨_, _, rfl, rfl, rfl, rfl, rfl, fun _ => rfl⟩
        · rw [if_neg hf, if_neg hf]
          exact .inl ⟨rfl, rfl⟩
theorem lifeN_snoc' (F : Fm) (L : List Ev) (e : Ev) : lifeN F (L ++ [e]) = (lifeN F L).bind fun s => stepN F s e := by
  unfold lifeN
  rw [List.foldl_append]
  rfl
theorem list_snoc_ind {α : Type} {p : List α → Prop} (h0 : p []) (hs : ∀ l x, p l → p (l ++ [x])) (l : List α) : p l := by
  have : ∀ r : List α, p r.reverse := by
    intro r
    induction r with
    | nil => exact h0
    | cons x r ih => rw [List.reverse_cons]; exact hs _ _ ih
  have := this l.reverse
  rw [List.reverse_reverse] at this
  exact this
theorem sim_life {F : Fm} (h : F.Ok) (L : List Ev) : (lifeN F L = none ∧ behindG F L = none) ∨ ∃ s g, lifeN F L = some s ∧ behindG F L = some g ∧ Sim F s g := by
  induction L using list_snoc_ind with
  | h0 => 
    refine .inr ⟨begunN F, begunG F, rfl, rfl, rfl, rfl, ?_, fun z => by cases z⟩
    show some (0 : Int) = some ((0 : Int) % F.t)
    rw [Int.zero_emod]
  | hs L e ih =>
    rw [lifeN_snoc', behindG_snoc]
    rcases ih with ⟨e1, e2⟩ | ⟨s, g, e1, e2, r⟩
    · rw [e1, e2]
      exact .inl ⟨rfl, rfl⟩
    · rw [e1, e2]
      exact sim_step h r e
theorem mth_life {F : Fm} (h : F.Ok) (P : Pic) (L : List Ev) : isLifeN F P L = decide (behindN F L = some P) := by
  unfold isLifeN behindN
  rcases sim_life h L with ⟨e1, e2⟩ | ⟨s, g, e1, e2, r⟩
  · rw [e1, e2]
    simp
  · rw [e1, e2]
    dsimp only
    rw [r.P]
    simp
end K15
set_option Elab.async false
set_option linter.all false
set_option maxRecDepth 100000
set_option maxHeartbeats 4000000
set_option autoImplicit false
namespace K15
open PySem PySem.Spec PyProof.Rows L2
/-! ### cells by numbers -/
theorem idx_eq_iff {F : Fm} (h : F.Ok) (a b : Int) : idx F a = idx F b ↔ a % F.c = b % F.c := by
  have hc := h.c2
  unfold idx
  have := Int.emod_nonneg a (b := (F.c : Int)) (by omega)
  have := Int.emod_nonneg b (b := (F.c : Int)) (by omega)
  omega
/-- two numbers of one cell less than a ring apart are one -/
theorem mod_near {F : Fm} {a b : Int} (h : a % F.c = b % F.c) (h1 : a - b < F.c) (h2 : b - a < F.c) : a = b := by
  have hd : (F.c : Int) ∣ a - b := Int.dvd_of_emod_eq_zero (by rw [Int.sub_emod, h, Int.sub_self, Int.zero_emod])
  obtain ⟨k, hk⟩ := hd
  have h3 : (F.c : Int) * k < F.c * 1 := by omega
  have h4 : (F.c : Int) * (-1) < F.c * k := by omega
  by_cases hc : (F.c : Int) = 0
  · rw [hc] at hk; omega
  · have h5 := Int.lt_of_mul_lt_mul_left h3 (by omega)
    have h6 := Int.lt_of_mul_lt_mul_left h4 (by omega)
    have : k = 0 := by omega
    rw [this] at hk
    omega
theorem mod_c_add {F : Fm} (n : Int) : (n + F.c) % F.c = n % F.c := by rw [Int.add_emod_right]
theorem mod_c_sub {F : Fm} (n : Int) : (n - F.c) % F.c = n % F.c := by rw [Int.sub_emod_right]
theorem cellAt_congr {F : Fm} (P : Pic) {a b : Int} (e : a % F.c = b % F.c) : cellAt F P a = cellAt F P b := by
  unfold cellAt idx
  rw [e]
theorem cellAt_sub {F : Fm} (P : Pic) (n : Int) : cellAt F P (n - F.c) = cellAt F P n := cellAt_congr P (mod_c_sub n)
theorem put_length (P : Pic) (k : Int) (x : Cell) : (put P k x).length = P.length := by unfold put; simp
theorem cellAt_put {F : Fm} (h : F.Ok) {P : Pic} (hp : P.length = F.c) (a n : Int) (x : Cell) : cellAt F (put P (a % F.c) x) n = if a % F.c = n % F.c then x else cellAt F P n := by
  have hn := idx_lt h n
  unfold cellAt put
  by_cases e : a % F.c = n % F.c
  · rw [if_pos e]
    have : (a % F.c).toNat = idx F n := by unfold idx; rw [e]
    rw [this, List.getElem?_set_self (by omega)]
    rfl
  · rw [if_neg e, List.getElem?_set_ne]
    intro e2
    exact e ((idx_eq_iff h a n).mp e2)
/-- pictures are equal cell by cell -/
theorem pic_ext {F : Fm} (h : F.Ok) {P Q : Pic} (hp : P.length = F.c) (hq : Q.length = F.c) (e : ∀ n : Int, cellAt F P n = cellAt F Q n) : P = Q := by
  apply List.ext_getElem?
  intro i
  by_cases hi : i < F.c
  · have h1 := cellAt_get h hp i
    have h2 := cellAt_get h hq i
    have : idx F i = i := by unfold idx; rw [Int.emod_eq_of_lt (by omega) (by omega)]; omega
    rw [this] at h1 h2
    rw [h1, h2, e]
  · rw [List.getElem?_eq_none (by omega), List.getElem?_eq_none (by omega)]
/-- one of the numbers of a ring's length is of the cell -/
theorem mod_in {F : Fm} (h : F.Ok) (a n : Int) : ∃ b, a ≤ b ∧ b < a + F.c ∧ n % F.c = b % F.c := by
  have hc := h.c2
  have h1 := Int.emod_nonneg (n - a) (b := (F.c : Int)) (by omega)
  have h2 := Int.emod_lt_of_pos (n - a) (b := (F.c : Int)) (by omega)
  refine ⟨a + (n - a) % F.c, by omega, by omega, ?_⟩
  rw [Int.add_emod_emod]
  congr 1
  omega
theorem pic_ext_at {F : Fm} (h : F.Ok) {P Q : Pic} (hp : P.length = F.c) (hq : Q.length = F.c) (a : Int) (e : ∀ n : Int, a ≤ n → n < a + F.c → cellAt F P n = cellAt F Q n) : P = Q := by
  refine pic_ext h hp hq fun n => ?_
  obtain ⟨b, b1, b2, b3⟩ := mod_in h a n
  rw [cellAt_congr P b3, cellAt_congr Q b3]
  exact e b b1 b2
/-! ### what a fit is -/
structure Fit (F : Fm) (P : Pic) (s : Int) : Prop where
  win : ∀ n : Int, s - F.c + F.d ≤ n → n < s → shows F P n = true
  fli : ∀ n : Int, s ≤ n → n < s + F.d → cellAt F P n = none ∨ shows F P n = true ∨ shows F P (n - F.c) = true
theorem fm_nil {α β : Type} {l : List α} {f : α → Bool} {g : α → β} : (l.filterMap fun x => if f x = true then some (g x) else none) = [] ↔ ∀ x ∈ l, f x = false := by
  induction l with
  | nil => simp
  | cons x l ih =>
    rw [List.filterMap_cons]
    cases hf : f x with
    | true => simp [hf]
    | false => simp [hf]
theorem isort_nil (l : List Int) : isort l = [] ↔ l = [] := by
  have := isort_len l
  constructor
  · intro e; exact List.length_eq_zero_iff.mp (by rw [← this, e]; rfl)
  · intro e; exact List.length_eq_zero_iff.mp (by rw [this, e]; rfl)
theorem bars_fit {F : Fm} (h : F.Ok) (P : Pic) (s : Int) : barsN F P s = [] ↔ Fit F P s := by
  unfold barsN barsU winN fliN
  rw [isort_nil, List.append_eq_nil_iff, fm_nil (f := fun n => !shows F P n), fm_nil (f := fun n => !decide (cellAt F P n = none) && !(shows F P n || shows F P (n - F.c)))]
  constructor
  · rintro ⟨h1, h2⟩
    refine ⟨fun n n1 n2 => ?_, fun n n1 n2 => ?_⟩
    · have := h1 n (mem_rng.mpr ⟨n1, n2⟩)
      simpa using this
    · have := h2 n (mem_rng.mpr ⟨n1, n2⟩)
      by_cases e : cellAt F P n = none
      · exact .inl e
      · rw [decide_eq_false e] at this
        right
        cases hs : shows F P n with
        | true => exact .inl rfl
        | false =>
          rw [hs] at this
          right
          simpa using this
  · rintro ⟨h1, h2⟩
    refine ⟨fun n hn => ?_, fun n hn => ?_⟩
    · rw [h1 n (mem_rng.mp hn).1 (mem_rng.mp hn).2]; rfl
    · rcases h2 n (mem_rng.mp hn).1 (mem_rng.mp hn).2 with e | e | e
      · rw [e]; simp
      · rw [e]; simp
      · rw [e]; simp
theorem Fit.shift {F : Fm} (h : F.Ok) {P : Pic} {s : Int} (f : Fit F P s) (k : Int) : Fit F P (s + F.t * k) := by
  refine ⟨fun n n1 n2 => ?_, fun n n1 n2 => ?_⟩
  · have := f.win (n - F.t * k) (by omega) (by omega)
    have e := shows_add_t h P (n - F.t * k) k
    rw [show n - F.t * k + F.t * k = n by omega] at e
    rw [e]; exact this
  · have := f.fli (n - F.t * k) (by omega) (by omega)
    have e := shows_add_t h P (n - F.t * k) k
    have e2 := shows_add_t h P (n - F.t * k - F.c) k
    have e3 := cellAt_add_t (F := F) P (n - F.t * k) k
    rw [show n - F.t * k + F.t * k = n by omega] at e e3
    rw [show n - F.t * k - F.c + F.t * k = n - F.c by omega] at e2
    rw [e, e2, e3]; exact this
theorem can_iff {F : Fm} (h : F.Ok) (P : Pic) : canN F P = true ↔ ∃ s, Fit F P s := by
  have ht := h.tle
  unfold canN allN
  rw [List.any_eq_true]
  constructor
  · rintro ⟨l, hl, e⟩
    obtain ⟨s, _, rfl⟩ := List.mem_map.mp hl
    exact ⟨s, (bars_fit h P s).mp (of_decide_eq_true e)⟩
  · rintro ⟨s, f⟩
    have f2 := f.shift h (-(s / F.t))
    have e : s + F.t * -(s / F.t) = s % F.t := by
      have := Int.emod_add_mul_ediv s F.t
      rw [Int.mul_neg]
      omega
    rw [e] at f2
    refine ⟨barsN F P (s % F.t), List.mem_map.mpr ⟨s % F.t, mem_rng.mpr ⟨Int.emod_nonneg _ (by omega), by have := Int.emod_lt_of_pos s (b := F.t) (by omega); omega⟩, rfl⟩, decide_eq_true ((bars_fit h P _).mpr f2)⟩
theorem first_fit {F : Fm} (h : F.Ok) {P : Pic} {i : Nat} (hi : firstN F P = some i) : Fit F P i ∧ (i : Int) < F.t := by
  have hl := firstN_lt hi
  refine ⟨?_, hl⟩
  unfold firstN at hi
  rw [List.findIdx?_eq_some_iff_getElem] at hi
  obtain ⟨h1, h2, _⟩ := hi
  have := allN_get h P hl
  rw [List.getElem?_eq_getElem h1] at this
  have e := Option.some.inj this
  rw [e] at h2
  exact (bars_fit h P i).mp (of_decide_eq_true h2)
end K15
set_option Elab.async false
set_option linter.all false
set_option maxRecDepth 100000
set_option maxHeartbeats 4000000
set_option autoImplicit false
namespace K15
open PySem PySem.Spec PyProof.Rows L2
/-! ### the life told leads to the picture -/
theorem shows_iff {F : Fm} {P : Pic} {n : Int} : shows F P n = true ↔ ∃ a, cellAt F P n = some (mark F n, a) := by
  unfold shows
  cases hc : cellAt F P n with
  | none => simp
  | some x =>
    dsimp only
    rw [decide_eq_true_iff]
    constructor
    · intro e
      exact ⟨x.2, by rw [← e]⟩
    · rintro ⟨a, e⟩
      have := Option.some.inj e
      rw [this]
theorem land_nil (P : Pic) : land P [] = P := rfl
theorem behindG_app (F : Fm) (L M : List Ev) : behindG F (L ++ M) = M.foldl (fun o e => o.bind fun g => wentN F g e) (behindG F L) := by
  unfold behindG
  rw [List.foldl_append]
theorem view_write (F : Fm) (g : Gr) (n : Note) : land (writeG F g n).P (writeG F g n).ws = put (land g.P g.ws) (g.p % F.c) (some (mark F g.p, n)) := by
  unfold writeG
  dsimp only
  by_cases hl : g.ws.length = F.d
  · rw [if_pos hl, land_snoc]
    rfl
  · rw [if_neg hl, land_snoc]
theorem writeG_p (F : Fm) (g : Gr) (n : Note) : (writeG F g n).p = g.p + 1 ∧ (writeG F g n).aw = g.aw := by
  unfold writeG
  exact ⟨rfl, by dsimp only⟩
theorem went_write {F : Fm} {g : Gr} (n : Note) (h : g.aw = true) : wentN F g (.write n) = some (writeG F g n) := by
  unfold wentN
  rw [if_pos h]
theorem phase1 {F : Fm} (h : F.Ok) (f : Int → Note) : ∀ j : Nat, ∃ g, behindG F ((rng 0 (j : Int)).map fun n => .write (f n)) = some g ∧ g.aw = true ∧ g.p = j ∧ GrOk F g ∧ ∀ n : Int, (j : Int) - F.c ≤ n → n < j → 0 ≤ n → cellAt F (land g.P g.ws) n = some (mark F n, f n) := by
  intro j
  induction j with
  | zero => exact ⟨begunG F, rfl, rfl, rfl, begunG_ok, fun n h1 h2 h3 => by omega⟩
  | succ j ih =>
    obtain ⟨g, e1, e2, e3, e4, e5⟩ := ih
    have hw := went_write (F := F) (f j) e2
    refine ⟨writeG F g (f j), ?_, ?_, ?_, (wentN_ok h e4 hw).1, ?_⟩
    · rw [show ((j + 1 : Nat) : Int) = (j : Int) + 1 by omega, rng_snoc (by omega), List.map_append]
      show behindG F (_ ++ [Ev.write (f j)]) = _
      rw [behindG_snoc, e1, Option.bind_some, hw]
    · rw [(writeG_p F g _).2]; exact e2
    · rw [(writeG_p F g _).1, e3]; omega
    · intro n h1 h2 h3
      rw [view_write, e3, cellAt_put h (by rw [land_length]; exact e4.len)]
      by_cases e : (j : Int) % F.c = n % F.c
      · rw [if_pos e]
        have := mod_near e (by omega) (by omega)
        rw [← this]
      · rw [if_neg e]
        refine e5 n (by omega) ?_ h3
        by_cases hj : n = j
        · rw [hj] at e; exact (e rfl).elim
        · omega
theorem phase2 {F : Fm} (h : F.Ok) (f : Int → Note) {g0 : Gr} (h0 : g0.ws = []) (ha : g0.aw = true) : ∀ j : Nat, j ≤ F.d → ∃ k, ((rng g0.p (g0.p + j)).map fun n => Ev.write (f n)).foldl (fun o e => o.bind fun g => wentN F g e) (some g0) = some ⟨g0.P, (rng g0.p (g0.p + j)).map fun n => (n % F.c, (mark F n, f n)), g0.p + j, true, k⟩ := by
  intro j
  induction j with
  | zero =>
    intro _
    refine ⟨g0.k, ?_⟩
    obtain ⟨P, ws, p, aw, k⟩ := g0
    dsimp only at h0 ha
    subst h0 ha
    have : rng p (p + ((0 : Nat) : Int)) = [] := by unfold rng; simp
    dsimp only
    rw [this]
    show some (Gr.mk P [] p true k) = _
    simp
  | succ j ih =>
    intro hj
    obtain ⟨k, e⟩ := ih (by omega)
    refine ⟨k + 1, ?_⟩
    rw [show g0.p + ((j + 1 : Nat) : Int) = (g0.p + j) + 1 by omega, rng_snoc (by omega), List.map_append, List.foldl_append, e, List.map_append]
    show (some (Gr.mk g0.P ((rng g0.p (g0.p + (j : Int))).map fun n => (n % (F.c : Int), (mark F n, f n))) (g0.p + j) true k)).bind (fun g => wentN F g (.write (f (g0.p + j)))) = _
    rw [Option.bind_some, went_write _ rfl]
    unfold writeG
    dsimp only
    have hl : ¬ ((rng g0.p (g0.p + (j : Int))).map fun n => (n % (F.c : Int), (mark F n, f n))).length = F.d := by
      rw [List.length_map, rng_length]
      omega
    rw [if_neg hl]
    rfl
theorem fall_rng {F : Fm} (h : F.Ok) {P1 : Pic} (hp : P1.length = F.c) (f : Int → Note × Fate) (a : Int) : ∀ j : Nat, j ≤ F.d → ∀ n : Int, a - F.c + F.d ≤ n → n < a + F.d →
    cellAt F (fallN P1 ((rng a (a + j)).map fun n => ((n % F.c, (mark F n, (f n).1)), (f n).2))) n = if a ≤ n ∧ n < a + j then (match (f n).2 with | .old => cellAt F P1 n | .new => some (mark F n, (f n).1) | .torn => none) else cellAt F P1 n := by
  have hd := h.dc
  intro j
  induction j with
  | zero =>
    intro _ n n1 n2
    have : rng a (a + ((0 : Nat) : Int)) = [] := by unfold rng; simp
    rw [this, if_neg (by omega)]
    rfl
  | succ j ih =>
    intro hj n n1 n2
    have ihn := ih (by omega) n n1 n2
    rw [show a + ((j + 1 : Nat) : Int) = (a + j) + 1 by omega, rng_snoc (by omega), List.map_append]
    show cellAt F (fallN P1 (_ ++ [(((a + (j : Int)) % F.c, (mark F (a + j), (f (a + j)).1)), (f (a + j)).2)])) n = _
    rw [fallN_snoc]
    have hl : (fallN P1 ((rng a (a + j)).map fun n => ((n % (F.c : Int), (mark F n, (f n).1)), (f n).2))).length = F.c := by rw [fallN_length]; exact hp
    generalize fallN P1 ((rng a (a + j)).map fun n => ((n % (F.c : Int), (mark F n, (f n).1)), (f n).2)) = R at ihn hl
    unfold fall1
    dsimp only
    by_cases e : n = a + j
    · subst e
      rw [if_neg (by omega)] at ihn
      rw [if_pos (by omega)]
      cases hf : (f (a + j)).2 with
      | old => exact ihn
      | new =>
        dsimp only
        rw [cellAt_put h hl, if_pos rfl]
      | torn =>
        dsimp only
        rw [cellAt_put h hl, if_pos rfl]
    · have ne : ¬ (a + (j : Int)) % F.c = n % F.c := fun z => e (mod_near z (by omega) (by omega)).symm
      have : cellAt F (match (f (a + j)).2 with | .old => R | .new => put R ((a + (j : Int)) % F.c) (some (mark F (a + j), (f (a + j)).1)) | .torn => put R ((a + (j : Int)) % F.c) none) n = cellAt F R n := by
        cases (f (a + j)).2 with
        | old => rfl
        | new =>
          dsimp only
          rw [cellAt_put h hl, if_neg ne]
        | torn =>
          dsimp only
          rw [cellAt_put h hl, if_neg ne]
      refine this.trans (ihn.trans ?_)
      by_cases hr : a ≤ n ∧ n < a + j
      · rw [if_pos hr, if_pos (by omega)]
      · rw [if_neg hr, if_neg (by omega)]
theorem mth_to {F : Fm} (h : F.Ok) (P : Pic) (i : Nat) (hp : PicOk F P) (hi : firstN F P = some i) : behindN F (toLife F P i) = some P := by
  have hc := h.c2
  have hd := h.dc
  have ht := h.tle
  have htc : (F.c : Int) ≤ F.t := by
    have := h.m1
    unfold Fm.t
    have := Int.mul_le_mul_of_nonneg_left (show (1 : Int) ≤ F.m by omega) (show (0 : Int) ≤ F.c by omega)
    omega
  obtain ⟨fit, hl⟩ := first_fit h hi
  have fm : Fit F P (manyN F i) ∧ (F.c : Int) ≤ manyN F i := by
    unfold manyN
    split
    · exact ⟨fit, by omega⟩
    · have := fit.shift h 1
      rw [Int.mul_one] at this
      exact ⟨this, by omega⟩
  generalize hm : manyN F i = m at fm
  obtain ⟨fm, cm⟩ := fm
  obtain ⟨g, e1, e2, e3, e4, e5⟩ := phase1 h (stoodN F P) m.toNat
  rw [show ((m.toNat : Nat) : Int) = m by omega] at e1 e3 e5
  have e6 : wentN F g .sync = some ⟨land g.P g.ws, [], m, true, g.k⟩ := by
    unfold wentN
    rw [if_pos e2, e3]
  obtain ⟨k, e7⟩ := phase2 h (fun n => (flownN F P n).1) (g0 := ⟨land g.P g.ws, [], m, true, g.k⟩) rfl rfl F.d (Nat.le_refl _)
  dsimp only at e7
  unfold behindN toLife
  rw [hm, behindG_snoc, behindG_app, behindG_snoc, e1, Option.bind_some, e6, e7, Option.bind_some]
  have len2 : ((rng m (m + F.d)).map fun n => (flownN F P n).2).length = ((rng m (m + F.d)).map fun n => (n % (F.c : Int), (mark F n, (flownN F P n).1))).length := by rw [List.length_map, List.length_map]
  have e8 : wentN F ⟨land g.P g.ws, (rng m (m + F.d)).map fun n => (n % (F.c : Int), (mark F n, (flownN F P n).1)), m + F.d, true, k⟩ (.cut ((rng m (m + F.d)).map fun n => (flownN F P n).2)) = some ⟨fall (land g.P g.ws) ((rng m (m + F.d)).map fun n => (n % (F.c : Int), (mark F n, (flownN F P n).1))) ((rng m (m + F.d)).map fun n => (flownN F P n).2), [], m + F.d, false, k⟩ := by
    unfold wentN
    rw [if_pos rfl]
    dsimp only
    rw [if_pos len2]
  rw [e8, Option.map_some]
  congr 1
  dsimp only
  have hP1 : (land g.P g.ws).length = F.c := by rw [land_length]; exact e4.len
  generalize land g.P g.ws = P1 at e5 hP1
  refine pic_ext_at h (by rw [fall_length]; exact hP1) hp.len (m - F.c + F.d) fun n n1 n2 => ?_
  unfold fall
  rw [List.zip_map']
  have := fall_rng h hP1 (flownN F P) m F.d (Nat.le_refl _) n n1 (by omega)
  refine this.trans ?_
  by_cases hn : n < m
  · rw [if_neg (by omega), e5 n (by omega) hn (by omega)]
    obtain ⟨a, ea⟩ := shows_iff.mp (fm.win n n1 hn)
    unfold stoodN
    rw [ea]
    dsimp only
    rw [if_pos rfl]
  · rw [if_pos (by omega)]
    have fl := fm.fli n (by omega) (by omega)
    unfold flownN
    cases hx : cellAt F P n with
    | none => rfl
    | some x =>
      dsimp only
      cases hs : shows F P (n - F.c) with
      | true =>
        rw [if_pos rfl]
        dsimp only
        rw [← cellAt_sub, e5 (n - F.c) (by omega) (by omega) (by omega)]
        obtain ⟨a, ea⟩ := shows_iff.mp hs
        rw [cellAt_sub, hx] at ea
        unfold stoodN
        rw [cellAt_sub, hx, ea]
        dsimp only
        rw [if_pos rfl]
      | false =>
        rw [if_neg Bool.false_ne_true]
        dsimp only
        rw [hx, hs] at fl
        rcases fl with e | e | e
        · cases e
        · obtain ⟨a, ea⟩ := shows_iff.mp e
          rw [hx] at ea
          have := Option.some.inj ea
          rw [this]
        · cases e
end K15
set_option Elab.async false
set_option linter.all false
set_option maxRecDepth 100000
set_option maxHeartbeats 4000000
set_option autoImplicit false
namespace K15
open PySem PySem.Spec PyProof.Rows L2
/-! ### what a life leads to can lie -/
theorem mod_self {F : Fm} {a : Int} (h : 0 ≤ a ∧ a < F.c) : a % F.c = a := Int.emod_eq_of_lt h.1 h.2
theorem cellAt_put' {F : Fm} (h : F.Ok) {P : Pic} (hp : P.length = F.c) {a : Int} (ha : 0 ≤ a ∧ a < F.c) (n : Int) (x : Cell) : cellAt F (put P a x) n = if a = n % F.c then x else cellAt F P n := by
  have := cellAt_put h hp a n x
  rw [mod_self ha] at this
  exact this
theorem land_cell {F : Fm} (h : F.Ok) {P : Pic} (hp : P.length = F.c) (ws : List (Int × CellC)) (n : Int) : WOk F ws → (∃ w ∈ ws, w.1 = n % F.c ∧ cellAt F (land P ws) n = some w.2) ∨ ((∀ w ∈ ws, w.1 ≠ n % F.c) ∧ cellAt F (land P ws) n = cellAt F P n) := by
  induction ws using list_snoc_ind with
  | h0 => exact fun _ => .inr ⟨fun w hw => by simp at hw, rfl⟩
  | hs ws w ih =>
    intro ok
    have ok1 : WOk F ws := fun x hx => ok x (by simp [hx])
    have okw := ok w (by simp)
    rw [land_snoc, cellAt_put' h (by rw [land_length]; exact hp) okw]
    by_cases e : w.1 = n % F.c
    · rw [if_pos e]
      exact .inl ⟨w, by simp, e, rfl⟩
    · rw [if_neg e]
      rcases ih ok1 with ⟨x, hx, e1, e2⟩ | ⟨e1, e2⟩
      · exact .inl ⟨x, by simp [hx], e1, e2⟩
      · refine .inr ⟨fun x hx => ?_, e2⟩
        rcases List.mem_append.mp hx with hx | hx
        · exact e1 x hx
        · rw [List.mem_singleton.mp hx]; exact e
theorem fallN_cell {F : Fm} (h : F.Ok) {P : Pic} (hp : P.length = F.c) (l : List ((Int × CellC) × Fate)) (n : Int) : (∀ p ∈ l, 0 ≤ p.1.1 ∧ p.1.1 < F.c) → cellAt F (fallN P l) n = cellAt F P n ∨ ∃ p ∈ l, p.1.1 = n % F.c ∧ (cellAt F (fallN P l) n = none ∨ cellAt F (fallN P l) n = some p.1.2) := by
  induction l using list_snoc_ind with
  | h0 => exact fun _ => .inl rfl
  | hs l w ih =>
    intro ok
    have okw := ok w (by simp)
    have ih := ih fun x hx => ok x (by simp [hx])
    have ihL : cellAt F (fallN P l) n = cellAt F P n ∨ ∃ p ∈ l ++ [w], p.1.1 = n % F.c ∧ (cellAt F (fallN P l) n = none ∨ cellAt F (fallN P l) n = some p.1.2) := by
      rcases ih with e | ⟨p, hp, e⟩
      · exact .inl e
      · exact .inr ⟨p, by simp [hp], e⟩
    rw [fallN_snoc]
    have hl : (fallN P l).length = F.c := by rw [fallN_length]; exact hp
    unfold fall1
    cases hf : w.2 with
    | old => exact ihL
    | new =>
      dsimp only
      rw [cellAt_put' h hl okw]
      by_cases e : w.1.1 = n % F.c
      · rw [if_pos e]
        exact .inr ⟨w, by simp, e, .inr rfl⟩
      · rw [if_neg e]
        exact ihL
    | torn =>
      dsimp only
      rw [cellAt_put' h hl okw]
      by_cases e : w.1.1 = n % F.c
      · rw [if_pos e]
        exact .inr ⟨w, by simp, e, .inl rfl⟩
      · rw [if_neg e]
        exact ihL
theorem fall_cell {F : Fm} (h : F.Ok) {P : Pic} (hp : P.length = F.c) {ws : List (Int × CellC)} (ok : WOk F ws) (fs : List Fate) (n : Int) : cellAt F (fall P ws fs) n = cellAt F P n ∨ ∃ w ∈ ws, w.1 = n % F.c ∧ (cellAt F (fall P ws fs) n = none ∨ cellAt F (fall P ws fs) n = some w.2) := by
  unfold fall
  rcases fallN_cell h hp (ws.zip fs) n fun p hp => ok _ (List.of_mem_zip hp).1 with e | ⟨p, hp, e⟩
  · exact .inl e
  · exact .inr ⟨p.1, (List.of_mem_zip hp).1, e⟩
def LOk (F : Fm) (ws : List (Int × CellC)) : Prop := ∀ w ∈ ws, 0 ≤ w.2.1 ∧ w.2.1 < F.m
theorem fallN_ok {F : Fm} {P : Pic} (hp : PicOk F P) (l : List ((Int × CellC) × Fate)) : (∀ p ∈ l, 0 ≤ p.1.2.1 ∧ p.1.2.1 < F.m) → PicOk F (fallN P l) := by
  induction l using list_snoc_ind with
  | h0 => exact fun _ => hp
  | hs l w ih =>
    intro ok
    have okw := ok w (by simp)
    have ih := ih fun x hx => ok x (by simp [hx])
    rw [fallN_snoc]
    unfold fall1
    cases w.2 with
    | old => exact ih
    | new => exact ih.putc _ _ fun y hy => by cases hy; exact okw
    | torn => exact ih.putc _ _ fun y hy => by cases hy
theorem fall_ok {F : Fm} {P : Pic} (hp : PicOk F P) {ws : List (Int × CellC)} (ok : LOk F ws) (fs : List Fate) : PicOk F (fall P ws fs) := fallN_ok hp _ fun _ hp => ok _ (List.of_mem_zip hp).1
theorem land_ok {F : Fm} {P : Pic} (hp : PicOk F P) {ws : List (Int × CellC)} (ok : LOk F ws) : PicOk F (land P ws) := fall_ok hp ok _
structure Awk (F : Fm) (P : Pic) (ws : List (Int × CellC)) (p s : Int) : Prop where
  at_ : p = s + (ws.length : Nat)
  win : ∀ n : Int, s - F.c ≤ n → n < s → shows F P n = true ∨ (n < s - F.c + F.d ∧ cellAt F P n = none)
  fw : ∀ w ∈ ws, ∃ n : Int, s ≤ n ∧ n < p ∧ w.1 = n % F.c ∧ w.2.1 = mark F n
  bw : ∀ n : Int, s ≤ n → n < p → ∃ w ∈ ws, w.1 = n % F.c
theorem shows_of {F : Fm} {P : Pic} {n : Int} {x : CellC} (h : cellAt F P n = some x) (e : x.1 = mark F n) : shows F P n = true := by
  unfold shows
  rw [h]
  exact decide_eq_true e
theorem shows_eq {F : Fm} {P Q : Pic} {n : Int} (h : cellAt F P n = cellAt F Q n) : shows F P n = shows F Q n := by
  unfold shows
  rw [h]
theorem Awk.stand {F : Fm} (h : F.Ok) {P : Pic} {ws : List (Int × CellC)} {p s : Int} (hp : P.length = F.c) (ok : WOk F ws) (a : Awk F P ws p s) (hl : ws.length ≤ F.d) : Awk F (land P ws) [] p p := by
  have hc := h.c2
  have hd := h.dc
  have hat := a.at_
  refine ⟨by simp, fun n n1 n2 => ?_, fun w hw => by simp at hw, fun n n1 n2 => by omega⟩
  rcases land_cell h hp ws n ok with ⟨w, hw, e1, e2⟩ | ⟨e1, e2⟩
  · obtain ⟨n', m1, m2, m3, m4⟩ := a.fw w hw
    have : n' = n := mod_near (by rw [← m3, e1]) (by omega) (by omega)
    subst this
    exact .inl (shows_of e2 m4)
  · have hn : n < s := by
      by_cases q : n < s
      · exact q
      · obtain ⟨w, hw, e⟩ := a.bw n (by omega) n2
        exact (e1 w hw e).elim
    rcases a.win n (by omega) hn with z | ⟨z1, z2⟩
    · exact .inl (by rw [shows_eq e2]; exact z)
    · exact .inr ⟨by omega, by rw [e2]; exact z2⟩
theorem Awk.write {F : Fm} {P : Pic} {ws : List (Int × CellC)} {p s : Int} (a : Awk F P ws p s) (x : Note) : Awk F P (ws ++ [(p % F.c, (mark F p, x))]) (p + 1) s := by
  have hat := a.at_
  refine ⟨by rw [List.length_append, List.length_singleton]; omega, a.win, fun w hw => ?_, fun n n1 n2 => ?_⟩
  · rcases List.mem_append.mp hw with hw | hw
    · obtain ⟨n', m1, m2, m3, m4⟩ := a.fw w hw
      exact ⟨n', m1, by omega, m3, m4⟩
    · rw [List.mem_singleton.mp hw]
      exact ⟨p, by omega, by omega, rfl, rfl⟩
  · by_cases e : n = p
    · exact ⟨(p % F.c, (mark F p, x)), by simp, by rw [e]⟩
    · obtain ⟨w, hw, e⟩ := a.bw n n1 (by omega)
      exact ⟨w, by simp [hw], e⟩
theorem Awk.cut {F : Fm} (h : F.Ok) {P : Pic} {ws : List (Int × CellC)} {p s : Int} (hp : P.length = F.c) (ok : WOk F ws) (a : Awk F P ws p s) (hl : ws.length ≤ F.d) (fs : List Fate) : Fit F (fall P ws fs) s := by
  have hc := h.c2
  have hd := h.dc
  have hat := a.at_
  refine ⟨fun n n1 n2 => ?_, fun n n1 n2 => ?_⟩
  · rcases fall_cell h hp ok fs n with e | ⟨w, hw, e1, e2⟩
    · rw [shows_eq e]
      rcases a.win n (by omega) n2 with z | ⟨z1, z2⟩
      · exact z
      · omega
    · obtain ⟨n', m1, m2, m3, m4⟩ := a.fw w hw
      have : n' = n := mod_near (by rw [← m3, e1]) (by omega) (by omega)
      omega
  · rcases fall_cell h hp ok fs n with e | ⟨w, hw, e1, e2⟩
    · rw [e]
      rcases a.win (n - F.c) (by omega) (by omega) with z | ⟨z1, z2⟩
      · right; right
        rw [shows_eq (P := fall P ws fs) (Q := P) (n := n - F.c) (by rw [cellAt_sub, cellAt_sub]; exact e)]
        exact z
      · exact .inl (by rw [← cellAt_sub]; exact z2)
    · obtain ⟨n', m1, m2, m3, m4⟩ := a.fw w hw
      have : n' = n := mod_near (by rw [← m3, e1]) (by omega) (by omega)
      subst this
      rcases e2 with e2 | e2
      · exact .inl e2
      · exact .inr (.inl (shows_of e2 m4))
theorem Awk.fit {F : Fm} (h : F.Ok) {P : Pic} {ws : List (Int × CellC)} {p s : Int} (a : Awk F P ws p s) : Fit F P s := by
  have hc := h.c2
  have hd := h.dc
  refine ⟨fun n n1 n2 => ?_, fun n n1 n2 => ?_⟩
  · rcases a.win n (by omega) n2 with z | ⟨z1, z2⟩
    · exact z
    · omega
  · rcases a.win (n - F.c) (by omega) (by omega) with z | ⟨z1, z2⟩
    · exact .inr (.inr z)
    · exact .inl (by rw [← cellAt_sub]; exact z2)
/-! ### mending -/
theorem mendN_mem {F : Fm} {P : Pic} {a : Int} {w : Int × CellC} : w ∈ mendN F P a ↔ ∃ n : Int, a ≤ n ∧ n < a + F.d ∧ cellAt F P n ≠ none ∧ shows F P (n - F.c) = false ∧ w = (n % F.c, (mark F (n - F.c), .n0)) := by
  unfold mendN
  rw [List.mem_filterMap]
  constructor
  · rintro ⟨n, hn, e⟩
    obtain ⟨n1, n2⟩ := mem_rng.mp hn
    split at e
    · rename_i q
      rw [Bool.and_eq_true] at q
      exact ⟨n, n1, n2, by simpa using q.1, by simpa using q.2, (Option.some.inj e).symm⟩
    · cases e
  · rintro ⟨n, n1, n2, e1, e2, rfl⟩
    refine ⟨n, mem_rng.mpr ⟨n1, n2⟩, ?_⟩
    rw [if_pos]
    rw [Bool.and_eq_true]
    exact ⟨by simpa using e1, by simpa using e2⟩
theorem mendN_lok {F : Fm} (h : F.Ok) (P : Pic) (a : Int) : LOk F (mendN F P a) := fun w hw => by
  obtain ⟨n, _, _, _, _, rfl⟩ := mendN_mem.mp hw
  exact mark_bd h _
/-- waking at a whole place -/
theorem wake_awk {F : Fm} (h : F.Ok) {P : Pic} (hp : P.length = F.c) {a : Int} (hw : wholeN F P a = true) : Awk F (land P (mendN F P a)) [] a a := by
  have hc := h.c2
  have hd := h.dc
  rw [wholeN_iff] at hw
  have ok := mendN_ok h P a
  refine ⟨by simp, fun n n1 n2 => ?_, fun w hw => by simp at hw, fun n n1 n2 => by omega⟩
  by_cases q : n < a - F.c + F.d
  · -- of the cells that are mended
    rcases land_cell h hp _ n ok with ⟨w, hw, e1, e2⟩ | ⟨e1, e2⟩
    · obtain ⟨n', m1, m2, m3, m4, rfl⟩ := mendN_mem.mp hw
      have : n' - F.c = n := mod_near (by rw [mod_c_sub]; exact e1) (by omega) (by omega)
      subst this
      exact .inl (shows_of e2 rfl)
    · by_cases z : cellAt F P n = none
      · exact .inr ⟨q, by rw [e2]; exact z⟩
      · left
        rw [shows_eq e2]
        cases hs : shows F P n with
        | true => rfl
        | false =>
          refine (e1 _ (mendN_mem.mpr ⟨n + F.c, by omega, by omega, ?_, ?_, rfl⟩) (mod_c_add n)).elim
          · rw [cellAt_congr P (mod_c_add n)]; exact z
          · rw [show n + (F.c : Int) - F.c = n by omega]; exact hs
  · left
    rcases land_cell h hp _ n ok with ⟨w, hw, e1, e2⟩ | ⟨e1, e2⟩
    · obtain ⟨n', m1, m2, m3, m4, rfl⟩ := mendN_mem.mp hw
      have : n' = n := mod_near e1 (by omega) (by omega)
      omega
    · rw [shows_eq e2]
      have := hw (a - n) (by omega) (by omega)
      rw [show a - (a - n) = n by omega] at this
      exact this
/-- the first writes of mending near a fit -/
theorem mend_fit {F : Fm} (h : F.Ok) {P : Pic} (hp : P.length = F.c) {s a : Int} (f : Fit F P s) (h1 : s ≤ a) (h2 : a ≤ s + F.d) {ws : List (Int × CellC)} (hs : ∀ w ∈ ws, w ∈ mendN F P a) (fs : List Fate) : Fit F (fall P ws fs) s := by
  have hc := h.c2
  have hd := h.dc
  have ok : WOk F ws := fun w hw => mendN_ok h P a w (hs w hw)
  refine ⟨fun n n1 n2 => ?_, fun n n1 n2 => ?_⟩
  · rcases fall_cell h hp ok fs n with e | ⟨w, hw, e1, e2⟩
    · rw [shows_eq e]
      exact f.win n n1 n2
    · obtain ⟨n', m1, m2, m3, m4, rfl⟩ := mendN_mem.mp (hs w hw)
      have : n' - F.c = n := mod_near (by rw [mod_c_sub]; exact e1) (by omega) (by omega)
      rw [this, f.win n n1 n2] at m4
      cases m4
  · rcases fall_cell h hp ok fs n with e | ⟨w, hw, e1, e2⟩
    · rw [e, shows_eq e, shows_eq (P := fall P ws fs) (Q := P) (n := n - F.c) (by rw [cellAt_sub, cellAt_sub]; exact e)]
      exact f.fli n n1 n2
    · obtain ⟨n', m1, m2, m3, m4, rfl⟩ := mendN_mem.mp (hs w hw)
      rcases e2 with e2 | e2
      · exact .inl e2
      · right
        by_cases q : n' < s + F.d
        · have : n' = n := mod_near e1 (by omega) (by omega)
          subst this
          right
          exact shows_of (by rw [cellAt_sub]; exact e2) rfl
        · have : n' - F.c = n := mod_near (by rw [mod_c_sub]; exact e1) (by omega) (by omega)
          left
          exact shows_of e2 (by rw [← this])
end K15
set_option Elab.async false
set_option linter.all false
set_option maxRecDepth 100000
set_option maxHeartbeats 4000000
set_option autoImplicit false
namespace K15
open PySem PySem.Spec PyProof.Rows L2
theorem whole_add_t {F : Fm} (h : F.Ok) (P : Pic) (n k : Int) : wholeN F P (n + F.t * k) = wholeN F P n := by
  rw [Bool.eq_iff_iff, wholeN_iff, wholeN_iff]
  constructor
  · intro z j j1 j2
    have := z j j1 j2
    rw [show n + F.t * k - j = n - j + F.t * k by omega, shows_add_t h] at this
    exact this
  · intro z j j1 j2
    rw [show n + F.t * k - j = n - j + F.t * k by omega, shows_add_t h]
    exact z j j1 j2
theorem fm_filter {α : Type} (p : α → Bool) (l : List α) : (l.filterMap fun x => if p x = true then some x else none) = l.filter p := by
  induction l with
  | nil => rfl
  | cons x l ih =>
    rw [List.filterMap_cons, List.filter_cons]
    cases p x with
    | true => simp [ih]
    | false => simp [ih]
theorem wholesN_mem {F : Fm} {P : Pic} {n : Int} : n ∈ wholesN F P ↔ (0 ≤ n ∧ n < F.t) ∧ wholeN F P n = true := by
  unfold wholesN
  rw [fm_filter, List.mem_filter, mem_rng]
theorem rng_pair (a b : Int) : (rng a b).Pairwise (· < ·) := by
  unfold rng
  rw [List.pairwise_map]
  exact List.pairwise_lt_range.imp fun h => by omega
theorem wholesN_pair (F : Fm) (P : Pic) : (wholesN F P).Pairwise (· < ·) := by
  unfold wholesN
  rw [fm_filter]
  exact (rng_pair 0 F.t).filter _
theorem far_of {F : Fm} (h : F.Ok) {P : Pic} {w : Int} (h0 : 0 ≤ w ∧ w < F.t) (hw : wholeN F P w = true) (hn : ∀ n : Int, w < n → n ≤ w + F.d → wholeN F P n = false) : w ∈ farN F.d F.t (wholesN F P) := by
  have hm := wholesN_mem.mpr ⟨h0, hw⟩
  have hpr := wholesN_pair F P
  have hall : ∀ x ∈ wholesN F P, (0 ≤ x ∧ x < F.t) ∧ wholeN F P x = true := fun x hx => wholesN_mem.mp hx
  rw [farN_idx]
  generalize wholesN F P = W at hm hpr hall
  obtain ⟨k, hk, e⟩ := List.mem_iff_getElem.mp hm
  have key : w < laterAt W F.t k ∧ wholeN F P (laterAt W F.t k) = true := by
    unfold laterAt
    by_cases q : k + 1 < W.length
    · rw [if_pos q, List.getElem?_eq_getElem q]
      refine ⟨?_, (hall _ (List.getElem_mem q)).2⟩
      have := List.pairwise_iff_getElem.mp hpr k (k + 1) hk q (by omega)
      rw [e] at this
      exact this
    · rw [if_neg q]
      have z : 0 < W.length := by omega
      rw [List.getElem?_eq_getElem z]
      have := hall _ (List.getElem_mem z)
      have e2 := whole_add_t h P W[0] 1
      rw [Int.mul_one] at e2
      refine ⟨?_, ?_⟩
      · show w < W[0] + F.t
        omega
      · show wholeN F P (W[0] + F.t) = true
        rw [e2]; exact this.2
  refine List.mem_filterMap.mpr ⟨(w, k), ?_, ?_⟩
  · rw [List.mem_iff_getElem?]
    exact ⟨k, by rw [List.getElem?_zipIdx, List.getElem?_eq_getElem hk, e]; simp⟩
  · dsimp only
    rw [if_pos]
    by_cases q : laterAt W F.t k ≤ w + F.d
    · have := hn _ key.1 q
      rw [key.2] at this
      cases this
    · omega
theorem ansN_some {l : List Int} {a : Int} (h : ansN l = some a) : l = [a] := by
  match l, h with
  | [x], h => cases h; rfl
theorem answer_far {F : Fm} {P : Pic} {a : Int} (h : answerG F P = some a) : farN F.d F.t (wholesN F P) = [a] := ansN_some h
theorem answer_whole {F : Fm} {P : Pic} {a : Int} (h : answerG F P = some a) : (0 ≤ a ∧ a < F.t) ∧ wholeN F P a = true := by
  have e := answer_far h
  have : a ∈ farN F.d F.t (wholesN F P) := by rw [e]; simp
  exact wholesN_mem.mp (farN_mem this)
theorem mark_sub {F : Fm} (h : F.Ok) (n k : Int) : mark F (n - F.c * k) = (n / F.c - k) % F.m := by
  have hc := h.c2
  unfold mark
  rw [show n - (F.c : Int) * k = n + F.c * (-k) by rw [Int.mul_neg]; omega, Int.add_mul_ediv_left _ _ (by omega)]
  rfl
theorem mark_ne {F : Fm} (h : F.Ok) (h3 : 3 ≤ F.m) (n : Int) : mark F n ≠ mark F (n - F.c) ∧ mark F n ≠ mark F (n - F.c - F.c) := by
  have h4 := h.m4
  have e1 := mark_sub h n 1
  have e2 := mark_sub h n 2
  rw [Int.mul_one] at e1
  rw [show n - (F.c : Int) * 2 = n - F.c - F.c by omega] at e2
  rw [e1, e2]
  unfold mark
  generalize n / (F.c : Int) = q
  rcases (show F.m = 3 ∨ F.m = 4 by omega) with e | e
  · rw [e]; omega
  · rw [e]; omega
/-- with at most two marks each cell fits -/
theorem two_marks {F : Fm} (h : F.Ok) (h3 : F.m < 3) {P : Pic} (hp : PicOk F P) (n : Int) : cellAt F P n = none ∨ shows F P n = true ∨ shows F P (n - F.c) = true := by
  have h1 := h.m1
  cases hx : cellAt F P n with
  | none => exact .inl rfl
  | some x =>
    right
    have hm : cellAt F P n ∈ P := List.mem_of_getElem? (cellAt_get h hp.len n)
    have hl := hp.lap _ hm x hx
    have e1 := mark_sub h n 1
    rw [Int.mul_one] at e1
    have : x.1 = mark F n ∨ x.1 = mark F (n - F.c) := by
      rw [e1]
      unfold mark
      generalize n / (F.c : Int) = q
      rcases (show F.m = 1 ∨ F.m = 2 by omega) with e | e
      · rw [e] at hl ⊢; omega
      · rw [e] at hl ⊢; omega
    rcases this with e | e
    · exact .inl (shows_of hx e)
    · exact .inr (shows_of (by rw [cellAt_sub]; exact hx) e)
theorem not_both {F : Fm} {P : Pic} {a b : Int} (e : a % F.c = b % F.c) (hm : mark F a ≠ mark F b) (hb : shows F P b = true) : shows F P a = false := by
  obtain ⟨x, ex⟩ := shows_iff.mp hb
  unfold shows
  rw [cellAt_congr P e, ex]
  exact decide_eq_false fun z => hm z.symm
theorem last_whole {F : Fm} {P : Pic} {s : Int} (h : wholeN F P s = true) : ∀ D : Nat, ∃ e : Int, 0 ≤ e ∧ e ≤ D ∧ wholeN F P (s + e) = true ∧ ∀ x : Int, e < x → x ≤ D → wholeN F P (s + x) = false
  | 0 => ⟨0, by omega, by omega, by rw [Int.add_zero]; exact h, fun x h1 h2 => by omega⟩
  | D + 1 => by
    cases q : wholeN F P (s + (D + 1 : Nat)) with
    | true => exact ⟨_, by omega, Int.le_refl _, q, fun x h1 h2 => by omega⟩
    | false =>
      obtain ⟨e, e0, e1, e2, e3⟩ := last_whole h D
      refine ⟨e, e0, by omega, e2, fun x h1 h2 => ?_⟩
      by_cases z : x = (D + 1 : Nat)
      · rw [z]; exact q
      · exact e3 x h1 (by omega)
theorem fit_whole {F : Fm} {P : Pic} {s : Int} (f : Fit F P s) : wholeN F P s = true := by
  rw [wholeN_iff]
  exact fun j j1 j2 => f.win (s - j) (by omega) (by omega)
theorem fit_near {F : Fm} (h : F.Ok) {P : Pic} (hp : PicOk F P) {s a : Int} (f : Fit F P s) (ha : answerG F P = some a) : ∃ s', Fit F P s' ∧ s' ≤ a ∧ a ≤ s' + F.d := by
  have hc := h.c2
  have hd := h.dc
  have ht := h.tle
  obtain ⟨a0, aw⟩ := answer_whole ha
  by_cases h3 : F.m < 3
  · refine ⟨a, ⟨fun n n1 n2 => ?_, fun n _ _ => two_marks h h3 hp n⟩, by omega, by omega⟩
    have := (wholeN_iff F P a).mp aw (a - n) (by omega) (by omega)
    rw [show a - (a - n) = n by omega] at this
    exact this
  · have h3 : 3 ≤ F.m := by omega
    obtain ⟨e, e0, e1, e2, e3⟩ := last_whole (fit_whole f) F.d
    have off : ∀ x : Int, s + F.d ≤ x → x < s + F.d + F.d → shows F P x = false := by
      intro x x1 x2
      have mn := mark_ne h h3 x
      by_cases q : x < s + F.c
      · exact not_both (mod_c_sub x).symm mn.1 (f.win (x - F.c) (by omega) (by omega))
      · rcases f.fli (x - F.c) (by omega) (by omega) with z | z | z
        · unfold shows
          rw [← cellAt_sub, z]
        · exact not_both (mod_c_sub x).symm mn.1 z
        · exact not_both (by rw [mod_c_sub, mod_c_sub]) mn.2 z
    have none : ∀ n : Int, s + e < n → n ≤ s + e + F.d → wholeN F P n = false := by
      intro n n1 n2
      by_cases q : n ≤ s + F.d
      · have := e3 (n - s) (by omega) (by omega)
        rw [show s + (n - s) = n by omega] at this
        exact this
      · cases z : wholeN F P n with
        | false => rfl
        | true =>
          have y := (wholeN_iff F P n).mp z 1 (by omega) (by omega)
          rw [off (n - 1) (by omega) (by omega)] at y
          cases y
    have eq := Int.emod_add_mul_ediv (s + e) F.t
    have w0 := Int.emod_nonneg (s + e) (b := F.t) (by omega)
    have w1 := Int.emod_lt_of_pos (s + e) (b := F.t) (by omega)
    generalize (s + e) % F.t = w at eq w0 w1
    generalize (s + e) / F.t = k at eq
    have per : ∀ n : Int, wholeN F P n = wholeN F P (n + F.t * k) := fun n => (whole_add_t h P n k).symm
    have := far_of h ⟨w0, w1⟩ (P := P) (by rw [per, eq]; exact e2) fun n n1 n2 => by
      rw [per]
      exact none _ (by omega) (by omega)
    rw [answer_far ha, List.mem_singleton] at this
    subst this
    have fs := f.shift h (-k)
    have em : F.t * -k = -(F.t * k) := Int.mul_neg _ _
    exact ⟨_, fs, by omega, by omega⟩
structure Inv (F : Fm) (g : Gr) : Prop where
  gr : GrOk F g
  pic : PicOk F g.P
  lap : LOk F g.ws
  aw : g.aw = true → ∃ s, Awk F g.P g.ws g.p s
  as : g.aw = false → g.ws = [] ∧ ∃ s, Fit F g.P s
theorem begunG_inv {F : Fm} (h : F.Ok) : Inv F (begunG F) := by
  have h1 := h.m1
  have hc := h.c2
  refine ⟨begunG_ok, ⟨begunG_ok.len, fun x hx y e => ?_⟩, fun w hw => by simp [begunG] at hw, fun _ => ⟨0, rfl, fun n n1 n2 => .inl ?_, fun w hw => by simp [begunG] at hw, fun n n1 n2 => ?_⟩, fun z => by cases z⟩
  · have := List.eq_of_mem_replicate hx
    rw [this] at e
    cases e
    dsimp only
    omega
  · have hcell : cellAt F (begunG F).P n = some ((F.m : Int) - 1, .n0) := by
      have := List.mem_of_getElem? (cellAt_get h (begunG_ok (F := F)).len n)
      exact List.eq_of_mem_replicate this
    refine shows_of hcell ?_
    unfold mark
    have : n / (F.c : Int) = -1 := by
      have e := Int.emod_add_mul_ediv n F.c
      have p0 := Int.emod_nonneg n (b := (F.c : Int)) (by omega)
      have p1 := Int.emod_lt_of_pos n (b := (F.c : Int)) (by omega)
      have l1 : (F.c : Int) * (n / F.c) < F.c * 0 := by omega
      have l2 : (F.c : Int) * (-2) < F.c * (n / F.c) := by omega
      have := Int.lt_of_mul_lt_mul_left l1 (by omega)
      have := Int.lt_of_mul_lt_mul_left l2 (by omega)
      omega
    rw [this]
    have m4 := h.m4
    rcases (show F.m = 1 ∨ F.m = 2 ∨ F.m = 3 ∨ F.m = 4 by omega) with q | q | q | q <;> rw [q] <;> rfl
  · have : (begunG F).p = 0 := rfl
    omega
theorem wentN_inv {F : Fm} (h : F.Ok) {g g' : Gr} {e : Ev} (v : Inv F g) (he : wentN F g e = some g') : Inv F g' := by
  have hgr := (wentN_ok h v.gr he).1
  obtain ⟨P, ws, p, aw, k⟩ := g
  obtain ⟨⟨hp, hw, hl⟩, hpic, hlap, haw, has⟩ := v
  dsimp only at hp hw hl hpic hlap haw has
  unfold wentN at he
  cases aw with
  | true =>
    obtain ⟨s, A⟩ := haw rfl
    dsimp only at he
    rw [if_pos rfl] at he
    cases e with
    | write n =>
      cases he
      have hb := mark_bd h p
      unfold writeG at hgr ⊢
      dsimp only at hgr ⊢
      by_cases q : ws.length = F.d
      · rw [if_pos q] at hgr ⊢
        refine ⟨hgr, land_ok hpic hlap, fun w hw => ?_, fun _ => ⟨p, ((A.stand h hp hw hl).write n)⟩, fun z => by cases z⟩
        rw [List.mem_singleton.mp hw]; exact hb
      · rw [if_neg q] at hgr ⊢
        refine ⟨hgr, hpic, fun w hw => ?_, fun _ => ⟨s, A.write n⟩, fun z => by cases z⟩
        rcases List.mem_append.mp hw with hw | hw
        · exact hlap w hw
        · rw [List.mem_singleton.mp hw]; exact hb
    | sync =>
      cases he
      exact ⟨hgr, land_ok hpic hlap, fun w hw => by simp at hw, fun _ => ⟨p, A.stand h hp hw hl⟩, fun z => by cases z⟩
    | cut fs =>
      dsimp only at he
      split at he
      · cases he
        exact ⟨hgr, fall_ok hpic hlap _, fun w hw => by simp at hw, fun z => by (cases z), fun _ => ⟨rfl, s, A.cut h hp hw hl fs⟩⟩
      · cases he
    | wake => cases he
    | mend k fs => cases he
  | false =>
    obtain ⟨rfl, s, f⟩ := has rfl
    dsimp only at he
    rw [if_neg Bool.false_ne_true] at he
    cases ha : answerG F P with
    | none => rw [ha] at he; cases he
    | some a =>
      rw [ha] at he
      dsimp only at he
      cases e with
      | write n => cases he
      | sync => cases he
      | cut fs => cases he
      | wake =>
        cases he
        exact ⟨hgr, land_ok hpic (mendN_lok h P a), fun w hw => by simp at hw, fun _ => ⟨a, wake_awk h hp (answer_whole ha).2⟩, fun z => by cases z⟩
      | mend j fs =>
        dsimp only at he
        split at he
        · cases he
          obtain ⟨s', f', q1, q2⟩ := fit_near h hpic f ha
          exact ⟨hgr, fall_ok hpic (fun w hw => mendN_lok h P a w (List.mem_of_mem_take hw)) _, fun w hw => by simp at hw, fun z => by (cases z), fun _ => ⟨rfl, s', mend_fit h hp f' q1 q2 (fun w hw => List.mem_of_mem_take hw) fs⟩⟩
        · cases he
theorem behind_inv {F : Fm} (h : F.Ok) (L : List Ev) : ∀ g, behindG F L = some g → Inv F g := by
  induction L using list_snoc_ind with
  | h0 =>
    intro g e
    cases e
    exact begunG_inv h
  | hs L e ih =>
    intro g eg
    rw [behindG_snoc] at eg
    cases hb : behindG F L with
    | none => rw [hb] at eg; cases eg
    | some g0 =>
      rw [hb, Option.bind_some] at eg
      exact wentN_inv h (ih g0 hb) eg
theorem mth_lie {F : Fm} (h : F.Ok) (P : Pic) (L : List Ev) (e : behindN F L = some P) : canN F P = true ∧ PicOk F P := by
  unfold behindN at e
  cases hb : behindG F L with
  | none => rw [hb] at e; cases e
  | some g =>
    rw [hb] at e
    cases e
    have v := behind_inv h L g hb
    refine ⟨(can_iff h g.P).mpr ?_, v.pic⟩
    cases q : g.aw with
    | true =>
      obtain ⟨s, A⟩ := v.aw q
      exact ⟨s, A.fit h⟩
    | false => exact (v.as q).2
theorem mth {F : Fm} (h : F.Ok) : Mth F := ⟨fun P s _ => barsGN h P s, fun P ws _ => mth_reas h P ws, fun P _ hc => mth_why h P hc, fun P L _ => mth_life h P L, fun P i hp hi => mth_to h P i hp hi, fun P L e => mth_lie h P L e⟩
end K15
set_option Elab.async false
set_option linter.all false
set_option maxRecDepth 100000
set_option maxHeartbeats 4000000
set_option autoImplicit false
namespace K15
open PySem PySem.Spec PyProof.Rows L2
/-! ### the part by hand -/
def F413 : Fm := ⟨4, 1, 3⟩
def F432 : Fm := ⟨4, 3, 2⟩
def F412 : Fm := ⟨4, 1, 2⟩
def F211 : Fm := ⟨2, 1, 1⟩
theorem ok413 : F413.Ok := ⟨by decide, by decide, by decide, by decide, by decide, by decide⟩
theorem ok432 : F432.Ok := ⟨by decide, by decide, by decide, by decide, by decide, by decide⟩
theorem ok412 : F412.Ok := ⟨by decide, by decide, by decide, by decide, by decide, by decide⟩
theorem ok211 : F211.Ok := ⟨by decide, by decide, by decide, by decide, by decide, by decide⟩
def pFine : Pic := [some (1, .n0), none, some (0, .n0), some (0, .n0)]
def pWrong : Pic := [some (1, .n0), some (2, .n0), some (0, .n0), some (0, .n0)]
def pBeg : Pic := [some (2, .n0), some (2, .n0), some (2, .n0), some (2, .n0)]
def pSome : Pic := [some (0, .n5), some (1, .n2), some (0, .n0), some (1, .n0)]
def pTT : Pic := [none, none]
def pZT : Pic := [some (0, .n0), none]
theorem picOk_of {F : Fm} {P : Pic} (hl : P.length = F.c) (hb : (P.all fun x => match x with | none => true | some y => decide (0 ≤ y.1) && decide (y.1 < F.m)) = true) : PicOk F P := ⟨hl, fun x hx y e => by
  have := List.all_eq_true.mp hb x hx
  subst e
  dsimp only at this
  rw [Bool.and_eq_true, decide_eq_true_iff, decide_eq_true_iff] at this
  exact this⟩
theorem okFine : PicOk F413 pFine := picOk_of rfl (by decide +kernel)
theorem okWrong : PicOk F413 pWrong := picOk_of rfl (by decide +kernel)
theorem okBeg : PicOk F413 pBeg := picOk_of rfl (by decide +kernel)
theorem okSome2 : PicOk F432 pSome := picOk_of rfl (by decide +kernel)
theorem okSome : PicOk F412 pSome := picOk_of rfl (by decide +kernel)
theorem okTT : PicOk F211 pTT := picOk_of rfl (by decide +kernel)
theorem okZT : PicOk F211 pZT := picOk_of rfl (by decide +kernel)
def six : List Ev := [.write .n0, .write .n0, .write .n0, .write .n0, .write .n0, .sync, .write .n0, .cut [.torn]]
def told : List Int := [0, 0, 0, 1, 1, 1, 1, 1, 0, 0, 0, 0]
def bl (l : List Bool) : PyData := .list (l.map .bool)
def q1 : List PyData := [.bool true, .bool false, .tuple (eIs []), .tuple (eIs [1]), .tuple (eIs [0, 1, 2, 3])]
def q2 : List PyData := q1 ++ [bl [true, false, false, false, false, false]]
def q3 : List PyData := q2 ++ [bl [true, true, true, true, false, false]]
def q4 : List PyData := q3 ++ [.bool false, .bool false, .bool false, .bool false]
def q5 : List PyData := q4 ++ [.bool true, .bool false, .tuple (eIs [1]), .bool false, .bool true]
def q6 : List PyData := q5 ++ [canNot, canNot, .tuple (eIs [1])]
def q7 : List PyData := q6 ++ [bl [true, true, true]]
def lhI (F : Fm) (P : Pic) : Lh → Bool
  | .tup L => isLifeN F P L
  | _ => false
def evB : Ev → Bool
  | .cut fs => decide (fs.length < 1000)
  | .mend _ fs => decide (fs.length < 1000)
  | _ => true
theorem evB_ok {e : Ev} (h : evB e = true) : EvOk e := match e, h with
  | .cut fs, h => of_decide_eq_true (p := fs.length < 1000) h
  | .mend _ fs, h => of_decide_eq_true (p := fs.length < 1000) h
  | .write _, _ => trivial
  | .sync, _ => trivial
  | .wake, _ => trivial
def lhB : Lh → Bool
  | .tup L => L.all evB
  | _ => true
section
variable {S S1 : Sto} {δ δ' : DEnv} {F : Fm} {P : Pic} {w : Wv}
theorem mLst_v {a : MA} {ws : List Wv} {S' : Sto} (h : a δ S = some (ws, S')) (hl : ws.length ≤ 1000000) : mLst a δ S = some (ws, S') := by
  unfold mLst
  rw [h, Option.bind_some, if_pos hl]
theorem c_can {a b : ME} {v : Bool} (ok : OkS S) (h : F.Ok) (hp : PicOk F P) (ha : a δ S = some (.d (eF F), S)) (hb : b δ S = some (.d (eP P), S)) (hv : canN F P = v) : mCall g_can_lie (mCons a (mCons b mNil)) δ S = some (.d (.bool v), S) := by
  rw [← hv]
  exact cl (mCons_v ha (mCons_v hb rfl)) (v_can_lie_of ok h hp.len (v_sure_both h hp))
theorem c_bars {a b c : ME} {s : Int} {v : List Int} (ok : OkS S) (h : F.Ok) (hp : PicOk F P) (ha : a δ S = some (.d (eF F), S)) (hb : b δ S = some (.d (eP P), S)) (hc : c δ S = some (.d (.int s), S)) (hv : barsN F P s = v) (h0 : 0 ≤ s) (h1 : s < F.t) : mCall g_bars (mCons a (mCons b (mCons c mNil))) δ S = some (.d (.tuple (eIs v)), S) := by
  rw [← hv]
  exact cl (mCons_v ha (mCons_v hb (mCons_v hc rfl))) (v_bars_of ok h hp.len (v_sure_both h hp) s h0 h1)
theorem c_isr {a b c : ME} {x : Th} {v : Bool} (ok : OkS S) (h : F.Ok) (hp : PicOk F P) (ha : a δ S = some (.d (eF F), S)) (hb : b δ S = some (.d (eP P), S)) (hc : c δ S = some (.d (eTh x), S)) (hx : ∀ ws, x = .tup ws → ws.length < 1000) (hv : thN F P x = v) : mCall g_is_reason (mCons a (mCons b (mCons c mNil))) δ S = some (.d (.bool v), S) := by
  rw [← hv]
  exact cl (mCons_v ha (mCons_v hb (mCons_v hc rfl))) (v_isr_th ok h hp x hx)
theorem v_ilt_i (ok : OkS S) (h : F.Ok) (hp : PicOk F P) (x : Lh) (hx : lhB x = true) : g_is_life_to [.d (eF F), .d (eP P), .d (eLh x)] S = some (.d (.bool (lhI F P x)), S) := by
  cases x with
  | tup L => exact v_is_life_to_of ok h (v_sure_both h hp) L fun e he => evB_ok (List.all_eq_true.mp hx e he)
  | lst ds => exact v_is_life_to_list (v_sure_both h hp) ds
theorem c_lives {a b c : ME} {X : List Lh} {bs : List Bool} (ok : OkS S) (h : F.Ok) (hp : PicOk F P) (hs : c δ S = some (.d (.tuple (X.map eLh)), S)) (ha : ∀ x, a (setsD (wipeD δ [11]) [(11, x)]) S = some (.d (eF F), S)) (hb : ∀ x, b (setsD (wipeD δ [11]) [(11, x)]) S = some (.d (eP P), S)) (hc : ∀ x, mVar 11 (setsD (wipeD δ [11]) [(11, x)]) S = some (x, S)) (hX : X.all lhB = true) (hl : X.length < 1000) (hv : X.map (lhI F P) = bs) : mImm (mComp (mIter c) (nName 11) mtYes (mCall g_is_life_to (mCons a (mCons b (mCons (mVar 11) mNil)))) [11]) δ S = some (.d (bl bs), S) := by
  have src := src_tup (J := fun S' => S' = S) hs
  rw [List.map_map] at src
  have := comp_map (n := nName 11) (e := mCall g_is_life_to (mCons a (mCons b (mCons (mVar 11) mNil)))) (vs := [11]) X (fun x => .d (eLh x)) (lhI F P) (fun b => .d (.bool b)) src (by omega) fun x hx => ⟨[(11, .d (eLh x))], rfl, cl (mCons_v (ha _) (mCons_v (hb _) (mCons_v (hc _) rfl))) (v_ilt_i ok h hp x (List.all_eq_true.mp hX x hx))⟩
  rw [hv, bool_w2] at this
  exact mImm_v this
end
theorem hand1 : (mAsgT (gsCons (gNm (nName 0)) (gsCons (gNm (nName 1)) (gsCons (gNm (nName 2)) gsNil))) (mCons (mTup (mCons (mC (.int 4)) (mCons (mC (.int 1)) (mCons (mC (.int 3)) mNil)))) (mCons (mTup (mCons (mC (.str "blank")) mNil)) (mCons (mTup (mCons (mC (.str "torn")) mNil)) mNil)))) [none, none, none, none, none, none, none, none, none, none, none, none, none] [] = some (Fl.nx [some (.d (eF F413)), some (.d (eN .n0)), some (.d torn), none, none, none, none, none, none, none, none, none, none], []) := by
  kernel_rfl
theorem hand2 : (mAsgT (gsCons (gNm (nName 3)) (gsCons (gNm (nName 4)) gsNil)) (mCons (mTup (mCons (mTup (mCons (mC (.int 1)) (mCons (mVar 1) mNil))) (mCons (mVar 2) (mCons (mTup (mCons (mC (.int 0)) (mCons (mVar 1) mNil))) (mCons (mTup (mCons (mC (.int 0)) (mCons (mVar 1) mNil))) mNil))))) (mCons (mTup (mCons (mTup (mCons (mC (.int 1)) (mCons (mVar 1) mNil))) (mCons (mTup (mCons (mC (.int 2)) (mCons (mVar 1) mNil))) (mCons (mTup (mCons (mC (.int 0)) (mCons (mVar 1) mNil))) (mCons (mTup (mCons (mC (.int 0)) (mCons (mVar 1) mNil))) mNil))))) mNil))) [some (.d (eF F413)), some (.d (eN .n0)), some (.d torn), none, none, none, none, none, none, none, none, none, none] [] = some (Fl.nx [some (.d (eF F413)), some (.d (eN .n0)), some (.d torn), some (.d (eP pFine)), some (.d (eP pWrong)), none, none, none, none, none, none, none, none], []) := by
  kernel_rfl
theorem hand3 : (mSet 5 (mMut (mLst (mCons (mCall g_can_lie (mCons (mVar 0) (mCons (mVar 3) mNil))) (mCons (mCall g_can_lie (mCons (mVar 0) (mCons (mVar 4) mNil))) (mCons (mCall g_bars (mCons (mVar 0) (mCons (mVar 3) (mCons (mC (.int 5)) mNil)))) (mCons (mCall g_bars (mCons (mVar 0) (mCons (mVar 4) (mCons (mC (.int 5)) mNil)))) (mCons (mCall g_bars (mCons (mVar 0) (mCons (mVar 3) (mCons (mC (.int 0)) mNil)))) mNil)))))))) [some (.d (eF F413)), some (.d (eN .n0)), some (.d torn), some (.d (eP pFine)), some (.d (eP pWrong)), none, none, none, none, none, none, none, none] [] = some (Fl.nx [some (.d (eF F413)), some (.d (eN .n0)), some (.d torn), some (.d (eP pFine)), some (.d (eP pWrong)), some (.ref 0), none, none, none, none, none, none, none], [q1.map Wv.d]) := by
  have OK : OkS [] := by unfold OkS; kernel_rfl
  have I : (mCons (mCall g_can_lie (mCons (mVar 0) (mCons (mVar 3) mNil))) (mCons (mCall g_can_lie (mCons (mVar 0) (mCons (mVar 4) mNil))) (mCons (mCall g_bars (mCons (mVar 0) (mCons (mVar 3) (mCons (mC (.int 5)) mNil)))) (mCons (mCall g_bars (mCons (mVar 0) (mCons (mVar 4) (mCons (mC (.int 5)) mNil)))) (mCons (mCall g_bars (mCons (mVar 0) (mCons (mVar 3) (mCons (mC (.int 0)) mNil)))) mNil))))) [some (.d (eF F413)), some (.d (eN .n0)), some (.d torn), some (.d (eP pFine)), some (.d (eP pWrong)), none, none, none, none, none, none, none, none] [] = some ([.d (.bool true), .d (.bool false), .d (.tuple (eIs [])), .d (.tuple (eIs [1])), .d (.tuple (eIs [0, 1, 2, 3]))], []) := (mCons_v (c_can OK ok413 okFine (rfl) (rfl) (by decide +kernel)) (mCons_v (c_can OK ok413 okWrong (rfl) (rfl) (by decide +kernel)) (mCons_v (c_bars OK ok413 okFine (rfl) (rfl) rfl (by decide +kernel) (by decide) (by decide)) (mCons_v (c_bars OK ok413 okWrong (rfl) (rfl) rfl (by decide +kernel) (by decide) (by decide)) (mCons_v (c_bars OK ok413 okFine (rfl) (rfl) rfl (by decide +kernel) (by decide) (by decide)) rfl)))))
  refine (mSet_v (mMut_v (mLst_v I (by decide)))).trans ?_
  kernel_rfl
theorem hand4 : (mSet 6 (mMut (mLst (mCons (mC (.bool true)) (mCons (mC (.bool false)) (mCons (mTup mNil) (mCons (mTup (mCons (mC (.int 1)) mNil)) (mCons (mTup (mCons (mC (.int 0)) (mCons (mC (.int 1)) (mCons (mC (.int 2)) (mCons (mC (.int 3)) mNil))))) mNil)))))))) [some (.d (eF F413)), some (.d (eN .n0)), some (.d torn), some (.d (eP pFine)), some (.d (eP pWrong)), some (.ref 0), none, none, none, none, none, none, none] [q1.map Wv.d] = some (Fl.nx [some (.d (eF F413)), some (.d (eN .n0)), some (.d torn), some (.d (eP pFine)), some (.d (eP pWrong)), some (.ref 0), some (.ref 1), none, none, none, none, none, none], [q1.map Wv.d, q1.map Wv.d]) := by
  kernel_rfl
theorem hand5 : (mSet 7 (mBin fAdd (mBin fMulA (mTup (mCons (mTup (mCons (mC (.str "write")) (mCons (mVar 1) mNil))) mNil)) (mC (.int 5))) (mTup (mCons (mTup (mCons (mC (.str "sync")) mNil)) (mCons (mTup (mCons (mC (.str "write")) (mCons (mVar 1) mNil))) (mCons (mTup (mCons (mC (.str "cut")) (mCons (mTup (mCons (mC (.str "torn")) mNil)) mNil))) mNil)))))) [some (.d (eF F413)), some (.d (eN .n0)), some (.d torn), some (.d (eP pFine)), some (.d (eP pWrong)), some (.ref 0), some (.ref 1), none, none, none, none, none, none] [q1.map Wv.d, q1.map Wv.d] = some (Fl.nx [some (.d (eF F413)), some (.d (eN .n0)), some (.d torn), some (.d (eP pFine)), some (.d (eP pWrong)), some (.ref 0), some (.ref 1), some (.d (eL six)), none, none, none, none, none], [q1.map Wv.d, q1.map Wv.d]) := by
  kernel_rfl
theorem hand6 : (mSet 5 (mMut (mBinF fCat (mVar 5) (mImm (mLst (mCons (mImm (mComp (mIter (mTup (mCons (mVar 7) (mCons (mSl (mVar 7) mNo (mPart (mC (.int 5)))) (mCons (mSl (mVar 7) mNo (mPart (mC (.int 6)))) (mCons (mImm (mCallF cList (mCons (mVar 7) mNil))) (mCons (mBin fAdd (mSl (mVar 7) mNo (mPart (mNeg (mC (.int 1))))) (mTup (mCons (mTup (mCons (mC (.str "cut")) (mCons (mTup (mCons (mC (.str "old")) mNil)) mNil))) mNil))) (mCons (mTup mNil) mNil)))))))) (nName 11) mtYes (mCall g_is_life_to (mCons (mVar 0) (mCons (mVar 3) (mCons (mVar 11) mNil)))) [11])) mNil)))))) [some (.d (eF F413)), some (.d (eN .n0)), some (.d torn), some (.d (eP pFine)), some (.d (eP pWrong)), some (.ref 0), some (.ref 1), some (.d (eL six)), none, none, none, none, none] [q1.map Wv.d, q1.map Wv.d] = some (Fl.nx [some (.d (eF F413)), some (.d (eN .n0)), some (.d torn), some (.d (eP pFine)), some (.d (eP pWrong)), some (.ref 2), some (.ref 1), some (.d (eL six)), none, none, none, none, none], [q1.map Wv.d, q1.map Wv.d, q2.map Wv.d]) := by
  have OK : OkS [q1.map Wv.d, q1.map Wv.d] := by unfold OkS; kernel_rfl
  have I : (mCons (mImm (mComp (mIter (mTup (mCons (mVar 7) (mCons (mSl (mVar 7) mNo (mPart (mC (.int 5)))) (mCons (mSl (mVar 7) mNo (mPart (mC (.int 6)))) (mCons (mImm (mCallF cList (mCons (mVar 7) mNil))) (mCons (mBin fAdd (mSl (mVar 7) mNo (mPart (mNeg (mC (.int 1))))) (mTup (mCons (mTup (mCons (mC (.str "cut")) (mCons (mTup (mCons (mC (.str "old")) mNil)) mNil))) mNil))) (mCons (mTup mNil) mNil)))))))) (nName 11) mtYes (mCall g_is_life_to (mCons (mVar 0) (mCons (mVar 3) (mCons (mVar 11) mNil)))) [11])) mNil) [some (.d (eF F413)), some (.d (eN .n0)), some (.d torn), some (.d (eP pFine)), some (.d (eP pWrong)), some (.ref 0), some (.ref 1), some (.d (eL six)), none, none, none, none, none] [q1.map Wv.d, q1.map Wv.d] = some ([.d (bl [true, false, false, false, false, false])], [q1.map Wv.d, q1.map Wv.d]) := (mCons_v (c_lives (X := [Lh.tup six, Lh.tup (six.take 5), Lh.tup (six.take 6), Lh.lst (six.map eE), Lh.tup (six.take 7 ++ [.cut [.old]]), Lh.tup []]) (bs := [true, false, false, false, false, false]) OK ok413 okFine (by kernel_rfl) (fun _ => rfl) (fun _ => rfl) (fun _ => rfl) (by decide +kernel) (by decide) (by decide +kernel)) rfl)
  refine (mSet_v (mMut_v (mBinF_v (w1 := .ref 0) (w2 := .d (.list [(bl [true, false, false, false, false, false])])) (S1 := [q1.map Wv.d, q1.map Wv.d]) rfl (mImm_v (ds := [(bl [true, false, false, false, false, false])]) (mLst_v I (by decide))) (show _ = some (q2.map Wv.d, [q1.map Wv.d, q1.map Wv.d]) from by kernel_rfl)))).trans ?_
  kernel_rfl
theorem hand7 : (mDrop (mAppend (mVar 6) (mImm (mLst (mCons (mC (.bool true)) (mCons (mC (.bool false)) (mCons (mC (.bool false)) (mCons (mC (.bool false)) (mCons (mC (.bool false)) (mCons (mC (.bool false)) mNil)))))))))) [some (.d (eF F413)), some (.d (eN .n0)), some (.d torn), some (.d (eP pFine)), some (.d (eP pWrong)), some (.ref 2), some (.ref 1), some (.d (eL six)), none, none, none, none, none] [q1.map Wv.d, q1.map Wv.d, q2.map Wv.d] = some (Fl.nx [some (.d (eF F413)), some (.d (eN .n0)), some (.d torn), some (.d (eP pFine)), some (.d (eP pWrong)), some (.ref 2), some (.ref 1), some (.d (eL six)), none, none, none, none, none], [q1.map Wv.d, q2.map Wv.d, q2.map Wv.d]) := by
  kernel_rfl
theorem hand8 : (mSet 8 (mBin fMulA (mTup (mCons (mTup (mCons (mC (.int 2)) (mCons (mVar 1) mNil))) mNil)) (mC (.int 4)))) [some (.d (eF F413)), some (.d (eN .n0)), some (.d torn), some (.d (eP pFine)), some (.d (eP pWrong)), some (.ref 2), some (.ref 1), some (.d (eL six)), none, none, none, none, none] [q1.map Wv.d, q2.map Wv.d, q2.map Wv.d] = some (Fl.nx [some (.d (eF F413)), some (.d (eN .n0)), some (.d torn), some (.d (eP pFine)), some (.d (eP pWrong)), some (.ref 2), some (.ref 1), some (.d (eL six)), some (.d (eP pBeg)), none, none, none, none], [q1.map Wv.d, q2.map Wv.d, q2.map Wv.d]) := by
  kernel_rfl
theorem hand9 : (mSet 5 (mMut (mBinF fCat (mVar 5) (mImm (mLst (mCons (mImm (mComp (mIter (mTup (mCons (mTup mNil) (mCons (mTup (mCons (mTup (mCons (mC (.str "sync")) mNil)) mNil)) (mCons (mTup (mCons (mTup (mCons (mC (.str "write")) (mCons (mVar 1) mNil))) mNil)) (mCons (mTup (mCons (mTup (mCons (mC (.str "cut")) (mCons (mTup mNil) mNil))) (mCons (mTup (mCons (mC (.str "wake")) mNil)) mNil))) (mCons (mTup (mCons (mTup (mCons (mC (.str "wake")) mNil)) mNil)) (mCons (mTup (mCons (mTup (mCons (mC (.str "cut")) (mCons (mTup (mCons (mC (.str "old")) mNil)) mNil))) mNil)) mNil)))))))) (nName 11) mtYes (mCall g_is_life_to (mCons (mVar 0) (mCons (mVar 8) (mCons (mVar 11) mNil)))) [11])) mNil)))))) [some (.d (eF F413)), some (.d (eN .n0)), some (.d torn), some (.d (eP pFine)), some (.d (eP pWrong)), some (.ref 2), some (.ref 1), some (.d (eL six)), some (.d (eP pBeg)), none, none, none, none] [q1.map Wv.d, q2.map Wv.d, q2.map Wv.d] = some (Fl.nx [some (.d (eF F413)), some (.d (eN .n0)), some (.d torn), some (.d (eP pFine)), some (.d (eP pWrong)), some (.ref 3), some (.ref 1), some (.d (eL six)), some (.d (eP pBeg)), none, none, none, none], [q1.map Wv.d, q2.map Wv.d, q2.map Wv.d, q3.map Wv.d]) := by
  have OK : OkS [q1.map Wv.d, q2.map Wv.d, q2.map Wv.d] := by unfold OkS; kernel_rfl
  have I : (mCons (mImm (mComp (mIter (mTup (mCons (mTup mNil) (mCons (mTup (mCons (mTup (mCons (mC (.str "sync")) mNil)) mNil)) (mCons (mTup (mCons (mTup (mCons (mC (.str "write")) (mCons (mVar 1) mNil))) mNil)) (mCons (mTup (mCons (mTup (mCons (mC (.str "cut")) (mCons (mTup mNil) mNil))) (mCons (mTup (mCons (mC (.str "wake")) mNil)) mNil))) (mCons (mTup (mCons (mTup (mCons (mC (.str "wake")) mNil)) mNil)) (mCons (mTup (mCons (mTup (mCons (mC (.str "cut")) (mCons (mTup (mCons (mC (.str "old")) mNil)) mNil))) mNil)) mNil)))))))) (nName 11) mtYes (mCall g_is_life_to (mCons (mVar 0) (mCons (mVar 8) (mCons (mVar 11) mNil)))) [11])) mNil) [some (.d (eF F413)), some (.d (eN .n0)), some (.d torn), some (.d (eP pFine)), some (.d (eP pWrong)), some (.ref 2), some (.ref 1), some (.d (eL six)), some (.d (eP pBeg)), none, none, none, none] [q1.map Wv.d, q2.map Wv.d, q2.map Wv.d] = some ([.d (bl [true, true, true, true, false, false])], [q1.map Wv.d, q2.map Wv.d, q2.map Wv.d]) := (mCons_v (c_lives (X := [Lh.tup [], Lh.tup [.sync], Lh.tup [.write .n0], Lh.tup [.cut [], .wake], Lh.tup [.wake], Lh.tup [.cut [.old]]]) (bs := [true, true, true, true, false, false]) OK ok413 okBeg (by kernel_rfl) (fun _ => rfl) (fun _ => rfl) (fun _ => rfl) (by decide +kernel) (by decide) (by decide +kernel)) rfl)
  refine (mSet_v (mMut_v (mBinF_v (w1 := .ref 2) (w2 := .d (.list [(bl [true, true, true, true, false, false])])) (S1 := [q1.map Wv.d, q2.map Wv.d, q2.map Wv.d]) rfl (mImm_v (ds := [(bl [true, true, true, true, false, false])]) (mLst_v I (by decide))) (show _ = some (q3.map Wv.d, [q1.map Wv.d, q2.map Wv.d, q2.map Wv.d]) from by kernel_rfl)))).trans ?_
  kernel_rfl
theorem hand10 : (mDrop (mAppend (mVar 6) (mImm (mLst (mCons (mC (.bool true)) (mCons (mC (.bool true)) (mCons (mC (.bool true)) (mCons (mC (.bool true)) (mCons (mC (.bool false)) (mCons (mC (.bool false)) mNil)))))))))) [some (.d (eF F413)), some (.d (eN .n0)), some (.d torn), some (.d (eP pFine)), some (.d (eP pWrong)), some (.ref 3), some (.ref 1), some (.d (eL six)), some (.d (eP pBeg)), none, none, none, none] [q1.map Wv.d, q2.map Wv.d, q2.map Wv.d, q3.map Wv.d] = some (Fl.nx [some (.d (eF F413)), some (.d (eN .n0)), some (.d torn), some (.d (eP pFine)), some (.d (eP pWrong)), some (.ref 3), some (.ref 1), some (.d (eL six)), some (.d (eP pBeg)), none, none, none, none], [q1.map Wv.d, q3.map Wv.d, q2.map Wv.d, q3.map Wv.d]) := by
  kernel_rfl
theorem hand11 : (mSet 9 (mTup (mCons (mC (.int 0)) (mCons (mC (.int 0)) (mCons (mC (.int 0)) (mCons (mC (.int 1)) (mCons (mC (.int 1)) (mCons (mC (.int 1)) (mCons (mC (.int 1)) (mCons (mC (.int 1)) (mCons (mC (.int 0)) (mCons (mC (.int 0)) (mCons (mC (.int 0)) (mCons (mC (.int 0)) mNil)))))))))))))) [some (.d (eF F413)), some (.d (eN .n0)), some (.d torn), some (.d (eP pFine)), some (.d (eP pWrong)), some (.ref 3), some (.ref 1), some (.d (eL six)), some (.d (eP pBeg)), none, none, none, none] [q1.map Wv.d, q3.map Wv.d, q2.map Wv.d, q3.map Wv.d] = some (Fl.nx [some (.d (eF F413)), some (.d (eN .n0)), some (.d torn), some (.d (eP pFine)), some (.d (eP pWrong)), some (.ref 3), some (.ref 1), some (.d (eL six)), some (.d (eP pBeg)), some (.d (.tuple (eIs told))), none, none, none], [q1.map Wv.d, q3.map Wv.d, q2.map Wv.d, q3.map Wv.d]) := by
  kernel_rfl
theorem hand12 : (mSet 5 (mMut (mBinF fCat (mVar 5) (mImm (mLst (mCons (mCall g_is_reason (mCons (mVar 0) (mCons (mVar 4) (mCons (mBin fAdd (mBin fAdd (mSl (mVar 9) mNo (mPart (mC (.int 5)))) (mTup (mCons (mC (.int 0)) mNil))) (mSl (mVar 9) (mPart (mC (.int 6))) mNo)) mNil)))) (mCons (mCall g_is_reason (mCons (mVar 0) (mCons (mVar 4) (mCons (mSl (mVar 9) mNo (mPart (mC (.int 11)))) mNil)))) (mCons (mCall g_is_reason (mCons (mVar 0) (mCons (mVar 3) (mCons (mVar 9) mNil)))) (mCons (mCall g_is_reason (mCons (mVar 0) (mCons (mVar 4) (mCons (mImm (mCallF cList (mCons (mVar 9) mNil))) mNil)))) mNil))))))))) [some (.d (eF F413)), some (.d (eN .n0)), some (.d torn), some (.d (eP pFine)), some (.d (eP pWrong)), some (.ref 3), some (.ref 1), some (.d (eL six)), some (.d (eP pBeg)), some (.d (.tuple (eIs told))), none, none, none] [q1.map Wv.d, q3.map Wv.d, q2.map Wv.d, q3.map Wv.d] = some (Fl.nx [some (.d (eF F413)), some (.d (eN .n0)), some (.d torn), some (.d (eP pFine)), some (.d (eP pWrong)), some (.ref 4), some (.ref 1), some (.d (eL six)), some (.d (eP pBeg)), some (.d (.tuple (eIs told))), none, none, none], [q1.map Wv.d, q3.map Wv.d, q2.map Wv.d, q3.map Wv.d, q4.map Wv.d]) := by
  have OK : OkS [q1.map Wv.d, q3.map Wv.d, q2.map Wv.d, q3.map Wv.d] := by unfold OkS; kernel_rfl
  have I : (mCons (mCall g_is_reason (mCons (mVar 0) (mCons (mVar 4) (mCons (mBin fAdd (mBin fAdd (mSl (mVar 9) mNo (mPart (mC (.int 5)))) (mTup (mCons (mC (.int 0)) mNil))) (mSl (mVar 9) (mPart (mC (.int 6))) mNo)) mNil)))) (mCons (mCall g_is_reason (mCons (mVar 0) (mCons (mVar 4) (mCons (mSl (mVar 9) mNo (mPart (mC (.int 11)))) mNil)))) (mCons (mCall g_is_reason (mCons (mVar 0) (mCons (mVar 3) (mCons (mVar 9) mNil)))) (mCons (mCall g_is_reason (mCons (mVar 0) (mCons (mVar 4) (mCons (mImm (mCallF cList (mCons (mVar 9) mNil))) mNil)))) mNil)))) [some (.d (eF F413)), some (.d (eN .n0)), some (.d torn), some (.d (eP pFine)), some (.d (eP pWrong)), some (.ref 3), some (.ref 1), some (.d (eL six)), some (.d (eP pBeg)), some (.d (.tuple (eIs told))), none, none, none] [q1.map Wv.d, q3.map Wv.d, q2.map Wv.d, q3.map Wv.d] = some ([.d (.bool false), .d (.bool false), .d (.bool false), .d (.bool false)], [q1.map Wv.d, q3.map Wv.d, q2.map Wv.d, q3.map Wv.d]) := (mCons_v (c_isr (x := .tup (told.take 5 ++ [0] ++ told.drop 6)) (v := false) OK ok413 okWrong rfl rfl (by kernel_rfl) (fun ws e => by cases e; decide) (by decide +kernel)) (mCons_v (c_isr (x := .tup (told.take 11)) (v := false) OK ok413 okWrong rfl rfl (by kernel_rfl) (fun ws e => by cases e; decide) (by decide +kernel)) (mCons_v (c_isr (x := .tup told) (v := false) OK ok413 okFine rfl rfl (by kernel_rfl) (fun ws e => by cases e; decide) (by decide +kernel)) (mCons_v (c_isr (x := .lst told) (v := false) OK ok413 okWrong rfl rfl (by kernel_rfl) (fun ws e => by cases e) (by decide +kernel)) rfl))))
  refine (mSet_v (mMut_v (mBinF_v (w1 := .ref 3) (w2 := .d (.list [(.bool false), (.bool false), (.bool false), (.bool false)])) (S1 := [q1.map Wv.d, q3.map Wv.d, q2.map Wv.d, q3.map Wv.d]) rfl (mImm_v (ds := [(.bool false), (.bool false), (.bool false), (.bool false)]) (mLst_v I (by decide))) (show _ = some (q4.map Wv.d, [q1.map Wv.d, q3.map Wv.d, q2.map Wv.d, q3.map Wv.d]) from by kernel_rfl)))).trans ?_
  kernel_rfl
theorem hand13 : (mSet 6 (mMut (mBinF fCat (mVar 6) (mImm (mLst (mCons (mC (.bool false)) (mCons (mC (.bool false)) (mCons (mC (.bool false)) (mCons (mC (.bool false)) mNil))))))))) [some (.d (eF F413)), some (.d (eN .n0)), some (.d torn), some (.d (eP pFine)), some (.d (eP pWrong)), some (.ref 4), some (.ref 1), some (.d (eL six)), some (.d (eP pBeg)), some (.d (.tuple (eIs told))), none, none, none] [q1.map Wv.d, q3.map Wv.d, q2.map Wv.d, q3.map Wv.d, q4.map Wv.d] = some (Fl.nx [some (.d (eF F413)), some (.d (eN .n0)), some (.d torn), some (.d (eP pFine)), some (.d (eP pWrong)), some (.ref 4), some (.ref 5), some (.d (eL six)), some (.d (eP pBeg)), some (.d (.tuple (eIs told))), none, none, none], [q1.map Wv.d, q3.map Wv.d, q2.map Wv.d, q3.map Wv.d, q4.map Wv.d, q4.map Wv.d]) := by
  kernel_rfl
theorem hand14 : (mSet 10 (mTup (mCons (mTup (mCons (mC (.int 0)) (mCons (mTup (mCons (mC (.str "put")) (mCons (mC (.str "a")) (mCons (mC (.str "x")) (mCons (mC (.int 3)) (mCons (mC (.int 2)) mNil)))))) mNil))) (mCons (mTup (mCons (mC (.int 1)) (mCons (mTup (mCons (mC (.str "drop")) (mCons (mC (.str "b")) (mCons (mC (.int 0)) (mCons (mC (.int 0)) mNil))))) mNil))) (mCons (mTup (mCons (mC (.int 0)) (mCons (mVar 1) mNil))) (mCons (mTup (mCons (mC (.int 1)) (mCons (mVar 1) mNil))) mNil)))))) [some (.d (eF F413)), some (.d (eN .n0)), some (.d torn), some (.d (eP pFine)), some (.d (eP pWrong)), some (.ref 4), some (.ref 5), some (.d (eL six)), some (.d (eP pBeg)), some (.d (.tuple (eIs told))), none, none, none] [q1.map Wv.d, q3.map Wv.d, q2.map Wv.d, q3.map Wv.d, q4.map Wv.d, q4.map Wv.d] = some (Fl.nx [some (.d (eF F413)), some (.d (eN .n0)), some (.d torn), some (.d (eP pFine)), some (.d (eP pWrong)), some (.ref 4), some (.ref 5), some (.d (eL six)), some (.d (eP pBeg)), some (.d (.tuple (eIs told))), some (.d (eP pSome)), none, none], [q1.map Wv.d, q3.map Wv.d, q2.map Wv.d, q3.map Wv.d, q4.map Wv.d, q4.map Wv.d]) := by
  kernel_rfl
theorem hand15 : (mSet 5 (mMut (mBinF fCat (mVar 5) (mImm (mLst (mCons (mCall g_can_lie (mCons (mTup (mCons (mC (.int 4)) (mCons (mC (.int 3)) (mCons (mC (.int 2)) mNil)))) (mCons (mVar 10) mNil))) (mCons (mCall g_can_lie (mCons (mTup (mCons (mC (.int 4)) (mCons (mC (.int 1)) (mCons (mC (.int 2)) mNil)))) (mCons (mVar 10) mNil))) (mCons (mCall g_bars (mCons (mTup (mCons (mC (.int 4)) (mCons (mC (.int 1)) (mCons (mC (.int 2)) mNil)))) (mCons (mVar 10) (mCons (mC (.int 3)) mNil)))) (mCons (mCall g_can_lie (mCons (mTup (mCons (mC (.int 2)) (mCons (mC (.int 1)) (mCons (mC (.int 1)) mNil)))) (mCons (mTup (mCons (mVar 2) (mCons (mVar 2) mNil))) mNil))) (mCons (mCall g_can_lie (mCons (mTup (mCons (mC (.int 2)) (mCons (mC (.int 1)) (mCons (mC (.int 1)) mNil)))) (mCons (mTup (mCons (mTup (mCons (mC (.int 0)) (mCons (mVar 1) mNil))) (mCons (mVar 2) mNil))) mNil))) mNil)))))))))) [some (.d (eF F413)), some (.d (eN .n0)), some (.d torn), some (.d (eP pFine)), some (.d (eP pWrong)), some (.ref 4), some (.ref 5), some (.d (eL six)), some (.d (eP pBeg)), some (.d (.tuple (eIs told))), some (.d (eP pSome)), none, none] [q1.map Wv.d, q3.map Wv.d, q2.map Wv.d, q3.map Wv.d, q4.map Wv.d, q4.map Wv.d] = some (Fl.nx [some (.d (eF F413)), some (.d (eN .n0)), some (.d torn), some (.d (eP pFine)), some (.d (eP pWrong)), some (.ref 6), some (.ref 5), some (.d (eL six)), some (.d (eP pBeg)), some (.d (.tuple (eIs told))), some (.d (eP pSome)), none, none], [q1.map Wv.d, q3.map Wv.d, q2.map Wv.d, q3.map Wv.d, q4.map Wv.d, q4.map Wv.d, q5.map Wv.d]) := by
  have OK : OkS [q1.map Wv.d, q3.map Wv.d, q2.map Wv.d, q3.map Wv.d, q4.map Wv.d, q4.map Wv.d] := by unfold OkS; kernel_rfl
  have I : (mCons (mCall g_can_lie (mCons (mTup (mCons (mC (.int 4)) (mCons (mC (.int 3)) (mCons (mC (.int 2)) mNil)))) (mCons (mVar 10) mNil))) (mCons (mCall g_can_lie (mCons (mTup (mCons (mC (.int 4)) (mCons (mC (.int 1)) (mCons (mC (.int 2)) mNil)))) (mCons (mVar 10) mNil))) (mCons (mCall g_bars (mCons (mTup (mCons (mC (.int 4)) (mCons (mC (.int 1)) (mCons (mC (.int 2)) mNil)))) (mCons (mVar 10) (mCons (mC (.int 3)) mNil)))) (mCons (mCall g_can_lie (mCons (mTup (mCons (mC (.int 2)) (mCons (mC (.int 1)) (mCons (mC (.int 1)) mNil)))) (mCons (mTup (mCons (mVar 2) (mCons (mVar 2) mNil))) mNil))) (mCons (mCall g_can_lie (mCons (mTup (mCons (mC (.int 2)) (mCons (mC (.int 1)) (mCons (mC (.int 1)) mNil)))) (mCons (mTup (mCons (mTup (mCons (mC (.int 0)) (mCons (mVar 1) mNil))) (mCons (mVar 2) mNil))) mNil))) mNil))))) [some (.d (eF F413)), some (.d (eN .n0)), some (.d torn), some (.d (eP pFine)), some (.d (eP pWrong)), some (.ref 4), some (.ref 5), some (.d (eL six)), some (.d (eP pBeg)), some (.d (.tuple (eIs told))), some (.d (eP pSome)), none, none] [q1.map Wv.d, q3.map Wv.d, q2.map Wv.d, q3.map Wv.d, q4.map Wv.d, q4.map Wv.d] = some ([.d (.bool true), .d (.bool false), .d (.tuple (eIs [1])), .d (.bool false), .d (.bool true)], [q1.map Wv.d, q3.map Wv.d, q2.map Wv.d, q3.map Wv.d, q4.map Wv.d, q4.map Wv.d]) := (mCons_v (c_can OK ok432 okSome2 (by kernel_rfl) (rfl) (by decide +kernel)) (mCons_v (c_can OK ok412 okSome (by kernel_rfl) (rfl) (by decide +kernel)) (mCons_v (c_bars OK ok412 okSome (by kernel_rfl) (rfl) rfl (by decide +kernel) (by decide) (by decide)) (mCons_v (c_can OK ok211 okTT (by kernel_rfl) (by kernel_rfl) (by decide +kernel)) (mCons_v (c_can OK ok211 okZT (by kernel_rfl) (by kernel_rfl) (by decide +kernel)) rfl)))))
  refine (mSet_v (mMut_v (mBinF_v (w1 := .ref 4) (w2 := .d (.list [(.bool true), (.bool false), (.tuple (eIs [1])), (.bool false), (.bool true)])) (S1 := [q1.map Wv.d, q3.map Wv.d, q2.map Wv.d, q3.map Wv.d, q4.map Wv.d, q4.map Wv.d]) rfl (mImm_v (ds := [(.bool true), (.bool false), (.tuple (eIs [1])), (.bool false), (.bool true)]) (mLst_v I (by decide))) (show _ = some (q5.map Wv.d, [q1.map Wv.d, q3.map Wv.d, q2.map Wv.d, q3.map Wv.d, q4.map Wv.d, q4.map Wv.d]) from by kernel_rfl)))).trans ?_
  kernel_rfl
theorem hand16 : (mSet 6 (mMut (mBinF fCat (mVar 6) (mImm (mLst (mCons (mC (.bool true)) (mCons (mC (.bool false)) (mCons (mTup (mCons (mC (.int 1)) mNil)) (mCons (mC (.bool false)) (mCons (mC (.bool true)) mNil)))))))))) [some (.d (eF F413)), some (.d (eN .n0)), some (.d torn), some (.d (eP pFine)), some (.d (eP pWrong)), some (.ref 6), some (.ref 5), some (.d (eL six)), some (.d (eP pBeg)), some (.d (.tuple (eIs told))), some (.d (eP pSome)), none, none] [q1.map Wv.d, q3.map Wv.d, q2.map Wv.d, q3.map Wv.d, q4.map Wv.d, q4.map Wv.d, q5.map Wv.d] = some (Fl.nx [some (.d (eF F413)), some (.d (eN .n0)), some (.d torn), some (.d (eP pFine)), some (.d (eP pWrong)), some (.ref 6), some (.ref 7), some (.d (eL six)), some (.d (eP pBeg)), some (.d (.tuple (eIs told))), some (.d (eP pSome)), none, none], [q1.map Wv.d, q3.map Wv.d, q2.map Wv.d, q3.map Wv.d, q4.map Wv.d, q4.map Wv.d, q5.map Wv.d, q5.map Wv.d]) := by
  kernel_rfl
theorem hand17 : (mSet 5 (mMut (mBinF fCat (mVar 5) (mImm (mLst (mCons (mCall g__law_heard (mCons (mC (.int 0)) (mCons (mVar 0) (mCons (mVar 4) mNil)))) (mCons (mCall g__law_heard (mCons (mC (.int 1)) (mCons (mVar 0) (mCons (mVar 3) mNil)))) (mCons (mCallK g_bars g3 (mCons (mC (.int 5)) (mCons (mCall g__law_lists (mCons (mVar 4) mNil)) (mCons (mImm (mCallF cList (mCons (mVar 0) mNil))) mNil)))) mNil)))))))) [some (.d (eF F413)), some (.d (eN .n0)), some (.d torn), some (.d (eP pFine)), some (.d (eP pWrong)), some (.ref 6), some (.ref 7), some (.d (eL six)), some (.d (eP pBeg)), some (.d (.tuple (eIs told))), some (.d (eP pSome)), none, none] [q1.map Wv.d, q3.map Wv.d, q2.map Wv.d, q3.map Wv.d, q4.map Wv.d, q4.map Wv.d, q5.map Wv.d, q5.map Wv.d] = some (Fl.nx [some (.d (eF F413)), some (.d (eN .n0)), some (.d torn), some (.d (eP pFine)), some (.d (eP pWrong)), some (.ref 8), some (.ref 7), some (.d (eL six)), some (.d (eP pBeg)), some (.d (.tuple (eIs told))), some (.d (eP pSome)), none, none], [q1.map Wv.d, q3.map Wv.d, q2.map Wv.d, q3.map Wv.d, q4.map Wv.d, q4.map Wv.d, q5.map Wv.d, q5.map Wv.d, q6.map Wv.d]) := by
  have OK : OkS [q1.map Wv.d, q3.map Wv.d, q2.map Wv.d, q3.map Wv.d, q4.map Wv.d, q4.map Wv.d, q5.map Wv.d, q5.map Wv.d] := by unfold OkS; kernel_rfl
  have nc : canN F413 pWrong = false := by decide +kernel
  have yc : canN F413 pFine = true := by decide +kernel
  have vb : barsN F413 pWrong 5 = [1] := by decide +kernel
  have B : mCallK g_bars g3 (mCons (mC (.int 5)) (mCons (mCall g__law_lists (mCons (mVar 4) mNil)) (mCons (mImm (mCallF cList (mCons (mVar 0) mNil))) mNil))) [some (.d (eF F413)), some (.d (eN .n0)), some (.d torn), some (.d (eP pFine)), some (.d (eP pWrong)), some (.ref 6), some (.ref 7), some (.d (eL six)), some (.d (eP pBeg)), some (.d (.tuple (eIs told))), some (.d (eP pSome)), none, none] [q1.map Wv.d, q3.map Wv.d, q2.map Wv.d, q3.map Wv.d, q4.map Wv.d, q4.map Wv.d, q5.map Wv.d, q5.map Wv.d] = some (.d (.tuple (eIs [1])), [q1.map Wv.d, q3.map Wv.d, q2.map Wv.d, q3.map Wv.d, q4.map Wv.d, q4.map Wv.d, q5.map Wv.d, q5.map Wv.d]) := by
    unfold mCallK
    rw [mCons_v (w := .d (.int 5)) (S1 := [q1.map Wv.d, q3.map Wv.d, q2.map Wv.d, q3.map Wv.d, q4.map Wv.d, q4.map Wv.d, q5.map Wv.d, q5.map Wv.d]) rfl (mCons_v (cl (f := g__law_lists) (mCons_v rfl rfl) (v_lists_P pWrong (by decide))) (mCons_v (w := .d (lF F413)) (by kernel_rfl) rfl)), Option.bind_some, ← vb]
    exact v_bars_of OK ok413 okWrong.len (v_sure_bothL ok413 okWrong) 5 (by decide) (by decide)
  have I : (mCons (mCall g__law_heard (mCons (mC (.int 0)) (mCons (mVar 0) (mCons (mVar 4) mNil)))) (mCons (mCall g__law_heard (mCons (mC (.int 1)) (mCons (mVar 0) (mCons (mVar 3) mNil)))) (mCons (mCallK g_bars g3 (mCons (mC (.int 5)) (mCons (mCall g__law_lists (mCons (mVar 4) mNil)) (mCons (mImm (mCallF cList (mCons (mVar 0) mNil))) mNil)))) mNil))) [some (.d (eF F413)), some (.d (eN .n0)), some (.d torn), some (.d (eP pFine)), some (.d (eP pWrong)), some (.ref 6), some (.ref 7), some (.d (eL six)), some (.d (eP pBeg)), some (.d (.tuple (eIs told))), some (.d (eP pSome)), none, none] [q1.map Wv.d, q3.map Wv.d, q2.map Wv.d, q3.map Wv.d, q4.map Wv.d, q4.map Wv.d, q5.map Wv.d, q5.map Wv.d] = some ([.d canNot, .d canNot, .d (.tuple (eIs [1]))], [q1.map Wv.d, q3.map Wv.d, q2.map Wv.d, q3.map Wv.d, q4.map Wv.d, q4.map Wv.d, q5.map Wv.d, q5.map Wv.d]) := (mCons_v (cl (mCons_v rfl (mCons_v rfl (mCons_v rfl rfl))) (v_heard0_no OK ok413 okWrong nc)) (mCons_v (cl (mCons_v rfl (mCons_v rfl (mCons_v rfl rfl))) (v_heard1_no OK ok413 okFine yc)) (mCons_v (B) rfl)))
  refine (mSet_v (mMut_v (mBinF_v (w1 := .ref 6) (w2 := .d (.list [canNot, canNot, (.tuple (eIs [1]))])) (S1 := [q1.map Wv.d, q3.map Wv.d, q2.map Wv.d, q3.map Wv.d, q4.map Wv.d, q4.map Wv.d, q5.map Wv.d, q5.map Wv.d]) rfl (mImm_v (ds := [canNot, canNot, (.tuple (eIs [1]))]) (mLst_v I (by decide))) (show _ = some (q6.map Wv.d, [q1.map Wv.d, q3.map Wv.d, q2.map Wv.d, q3.map Wv.d, q4.map Wv.d, q4.map Wv.d, q5.map Wv.d, q5.map Wv.d]) from by kernel_rfl)))).trans ?_
  kernel_rfl
theorem hand18 : (mSet 6 (mMut (mBinF fCat (mVar 6) (mImm (mLst (mCons (mImm (mLst (mCons (mC (.str "can not")) (mCons (mC (.bool true)) mNil)))) (mCons (mImm (mLst (mCons (mC (.str "can not")) (mCons (mC (.bool true)) mNil)))) (mCons (mTup (mCons (mC (.int 1)) mNil)) mNil)))))))) [some (.d (eF F413)), some (.d (eN .n0)), some (.d torn), some (.d (eP pFine)), some (.d (eP pWrong)), some (.ref 8), some (.ref 7), some (.d (eL six)), some (.d (eP pBeg)), some (.d (.tuple (eIs told))), some (.d (eP pSome)), none, none] [q1.map Wv.d, q3.map Wv.d, q2.map Wv.d, q3.map Wv.d, q4.map Wv.d, q4.map Wv.d, q5.map Wv.d, q5.map Wv.d, q6.map Wv.d] = some (Fl.nx [some (.d (eF F413)), some (.d (eN .n0)), some (.d torn), some (.d (eP pFine)), some (.d (eP pWrong)), some (.ref 8), some (.ref 9), some (.d (eL six)), some (.d (eP pBeg)), some (.d (.tuple (eIs told))), some (.d (eP pSome)), none, none], [q1.map Wv.d, q3.map Wv.d, q2.map Wv.d, q3.map Wv.d, q4.map Wv.d, q4.map Wv.d, q5.map Wv.d, q5.map Wv.d, q6.map Wv.d, q6.map Wv.d]) := by
  kernel_rfl
theorem c_reasons {c : ME} {X : List (Fm × Pic)} {S : Sto} {y0 y1 y2 y3 y4 y5 y6 y7 y8 y9 y10 : Option Wv} (OK : OkS S) (hs : c [y0, y1, y2, y3, y4, y5, y6, y7, y8, y9, y10, none, none] S = some (.d (.tuple (X.map fun x => .tuple [eF x.1, eP x.2])), S)) (hX : ∀ x ∈ X, x.1.Ok ∧ PicOk x.1 x.2 ∧ canN x.1 x.2 = false) (hl : X.length < 1000 := by decide) : mImm (mComp (mIter c) (nTup (nCons (nName 11) (nCons (nName 12) nNil))) mtYes (mCall g__law_is_reason (mCons (mVar 11) (mCons (mVar 12) (mCons (mCall g__law_heard (mCons (mC (.int 1)) (mCons (mVar 11) (mCons (mVar 12) mNil)))) mNil)))) [11, 12]) [y0, y1, y2, y3, y4, y5, y6, y7, y8, y9, y10, none, none] S = some (.d (bl (X.map fun _ => true)), S) := by
  have src := src_tup (J := fun S' => S' = S) hs
  rw [List.map_map] at src
  have := comp_map (n := nTup (nCons (nName 11) (nCons (nName 12) nNil))) (e := mCall g__law_is_reason (mCons (mVar 11) (mCons (mVar 12) (mCons (mCall g__law_heard (mCons (mC (.int 1)) (mCons (mVar 11) (mCons (mVar 12) mNil)))) mNil)))) (vs := [11, 12]) X (fun x => .d (.tuple [eF x.1, eP x.2])) (fun _ => true) (fun b => .d (.bool b)) src (by omega) fun x hx => by
    obtain ⟨h, hp, hc⟩ := hX x hx
    refine ⟨[(11, .d (eF x.1)), (12, .d (eP x.2))], rfl, ?_⟩
    have ht := h.tle
    have hr : (reasonN x.1 x.2).length < 1000 := by unfold reasonN; rw [List.length_map, allN_len]; omega
    refine cl (mCons_v rfl (mCons_v rfl (mCons_v (cl (mCons_v rfl (mCons_v rfl (mCons_v rfl rfl))) (v_heard1_yes OK h hp hc)) rfl))) ((v_lis_reason OK h hp.len (.inl rfl) (reasonN x.1 x.2) hr).trans ?_)
    rw [mth_reas h, mth_why h x.2 hc]
  rw [bool_w2] at this
  exact mImm_v this
theorem hand19 : (mDrop (mAppend (mVar 5) (mImm (mComp (mIter (mTup (mCons (mTup (mCons (mVar 0) (mCons (mVar 4) mNil))) (mCons (mTup (mCons (mTup (mCons (mC (.int 4)) (mCons (mC (.int 1)) (mCons (mC (.int 2)) mNil)))) (mCons (mVar 10) mNil))) (mCons (mTup (mCons (mTup (mCons (mC (.int 2)) (mCons (mC (.int 1)) (mCons (mC (.int 1)) mNil)))) (mCons (mTup (mCons (mVar 2) (mCons (mVar 2) mNil))) mNil))) mNil))))) (nTup (nCons (nName 11) (nCons (nName 12) nNil))) mtYes (mCall g__law_is_reason (mCons (mVar 11) (mCons (mVar 12) (mCons (mCall g__law_heard (mCons (mC (.int 1)) (mCons (mVar 11) (mCons (mVar 12) mNil)))) mNil)))) [11, 12])))) [some (.d (eF F413)), some (.d (eN .n0)), some (.d torn), some (.d (eP pFine)), some (.d (eP pWrong)), some (.ref 8), some (.ref 9), some (.d (eL six)), some (.d (eP pBeg)), some (.d (.tuple (eIs told))), some (.d (eP pSome)), none, none] [q1.map Wv.d, q3.map Wv.d, q2.map Wv.d, q3.map Wv.d, q4.map Wv.d, q4.map Wv.d, q5.map Wv.d, q5.map Wv.d, q6.map Wv.d, q6.map Wv.d] = some (Fl.nx [some (.d (eF F413)), some (.d (eN .n0)), some (.d torn), some (.d (eP pFine)), some (.d (eP pWrong)), some (.ref 8), some (.ref 9), some (.d (eL six)), some (.d (eP pBeg)), some (.d (.tuple (eIs told))), some (.d (eP pSome)), none, none], [q1.map Wv.d, q3.map Wv.d, q2.map Wv.d, q3.map Wv.d, q4.map Wv.d, q4.map Wv.d, q5.map Wv.d, q5.map Wv.d, q7.map Wv.d, q6.map Wv.d]) := by
  have OK : OkS [q1.map Wv.d, q3.map Wv.d, q2.map Wv.d, q3.map Wv.d, q4.map Wv.d, q4.map Wv.d, q5.map Wv.d, q5.map Wv.d, q6.map Wv.d, q6.map Wv.d] := by unfold OkS; kernel_rfl
  have v : (mImm (mComp (mIter (mTup (mCons (mTup (mCons (mVar 0) (mCons (mVar 4) mNil))) (mCons (mTup (mCons (mTup (mCons (mC (.int 4)) (mCons (mC (.int 1)) (mCons (mC (.int 2)) mNil)))) (mCons (mVar 10) mNil))) (mCons (mTup (mCons (mTup (mCons (mC (.int 2)) (mCons (mC (.int 1)) (mCons (mC (.int 1)) mNil)))) (mCons (mTup (mCons (mVar 2) (mCons (mVar 2) mNil))) mNil))) mNil))))) (nTup (nCons (nName 11) (nCons (nName 12) nNil))) mtYes (mCall g__law_is_reason (mCons (mVar 11) (mCons (mVar 12) (mCons (mCall g__law_heard (mCons (mC (.int 1)) (mCons (mVar 11) (mCons (mVar 12) mNil)))) mNil)))) [11, 12])) [some (.d (eF F413)), some (.d (eN .n0)), some (.d torn), some (.d (eP pFine)), some (.d (eP pWrong)), some (.ref 8), some (.ref 9), some (.d (eL six)), some (.d (eP pBeg)), some (.d (.tuple (eIs told))), some (.d (eP pSome)), none, none] [q1.map Wv.d, q3.map Wv.d, q2.map Wv.d, q3.map Wv.d, q4.map Wv.d, q4.map Wv.d, q5.map Wv.d, q5.map Wv.d, q6.map Wv.d, q6.map Wv.d] = some (.d (bl [true, true, true]), [q1.map Wv.d, q3.map Wv.d, q2.map Wv.d, q3.map Wv.d, q4.map Wv.d, q4.map Wv.d, q5.map Wv.d, q5.map Wv.d, q6.map Wv.d, q6.map Wv.d]) := by
    refine c_reasons (X := [(F413, pWrong), (F412, pSome), (F211, pTT)]) OK (by kernel_rfl) ?_
    intro x hx
    simp only [List.mem_cons, List.not_mem_nil, or_false] at hx
    rcases hx with rfl | rfl | rfl
    · exact ⟨ok413, okWrong, by decide +kernel⟩
    · exact ⟨ok412, okSome, by decide +kernel⟩
    · exact ⟨ok211, okTT, by decide +kernel⟩
  refine (mDrop_v (mAppend_v (n := 8) (ws := q6.map Wv.d) rfl v rfl (by decide))).trans ?_
  kernel_rfl
theorem nb (b : Bool) : Nest 10 (.bool b) ∧ shp 60 (.bool b) := ⟨.bl _ _, (shp_bool b).mono (by omega)⟩
theorem nt (l : List Int) (h : l.length < 1000000 := by decide) : Nest 10 (.tuple (eIs l)) ∧ shp 60 (.tuple (eIs l)) := ⟨(nest_int_tup l h).mono (by omega), (shp_eIT l).mono (by omega)⟩
theorem nbl (l : List Bool) (h : l.length < 1000000 := by decide) : Nest 10 (bl l) ∧ shp 60 (bl l) := ⟨(Nest.list 0 _ (by simpa using h) fun x hx => by
  obtain ⟨b, _, rfl⟩ := List.mem_map.mp hx
  exact .bl _ _).mono (by omega), (shp_list (k := 0) fun x hx => by
  obtain ⟨b, _, rfl⟩ := List.mem_map.mp hx
  exact shp_bool b).mono (by omega)⟩
theorem ncn : Nest 10 canNot ∧ shp 60 canNot := by
  refine ⟨(Nest.list 0 _ (by simp) fun x hx => ?_).mono (by omega), (shp_list (k := 0) fun x hx => ?_).mono (by omega)⟩
  · simp only [List.mem_cons, List.not_mem_nil, or_false] at hx
    rcases hx with rfl | rfl
    · exact .str _ _
    · exact .bl _ _
  · simp only [List.mem_cons, List.not_mem_nil, or_false] at hx
    rcases hx with rfl | rfl
    · exact shp_s _ (by decide +kernel)
    · exact shp_bool _
theorem q7_ok : ∀ y ∈ q7, Nest 10 y ∧ shp 60 y := by
  unfold q7 q6 q5 q4 q3 q2 q1
  simp only [List.cons_append, List.nil_append, List.append_assoc]
  repeat' first
    | exact fun y hy => absurd hy List.not_mem_nil
    | refine List.forall_mem_cons.mpr ⟨?_, ?_⟩
    | exact nb _
    | exact nt _
    | exact nbl _
    | exact ncn
theorem hand20 : (mRet (mCall g__law_same (mCons (mVar 5) (mCons (mImm (mBinF fCat (mVar 6) (mImm (mLst (mCons (mImm (mBinF fRep (mImm (mLst (mCons (mC (.bool true)) mNil))) (mC (.int 3)))) mNil))))) mNil)))) [some (.d (eF F413)), some (.d (eN .n0)), some (.d torn), some (.d (eP pFine)), some (.d (eP pWrong)), some (.ref 8), some (.ref 9), some (.d (eL six)), some (.d (eP pBeg)), some (.d (.tuple (eIs told))), some (.d (eP pSome)), none, none] [q1.map Wv.d, q3.map Wv.d, q2.map Wv.d, q3.map Wv.d, q4.map Wv.d, q4.map Wv.d, q5.map Wv.d, q5.map Wv.d, q7.map Wv.d, q6.map Wv.d] = some (.rt (.d (.bool true)), [q1.map Wv.d, q3.map Wv.d, q2.map Wv.d, q3.map Wv.d, q4.map Wv.d, q4.map Wv.d, q5.map Wv.d, q5.map Wv.d, q7.map Wv.d, q6.map Wv.d]) := by
  have s1 : Seqd (.ref 8) false q7 [q1.map Wv.d, q3.map Wv.d, q2.map Wv.d, q3.map Wv.d, q4.map Wv.d, q4.map Wv.d, q5.map Wv.d, q5.map Wv.d, q7.map Wv.d, q6.map Wv.d] := seqd_ref rfl
  obtain ⟨b, e, hb⟩ := v_same_seq s1 (seqd_list (xs := q7)) (by decide) q7_ok fun x hx => (q7_ok x hx).2
  rw [hb.mpr rfl] at e
  exact mRet_w (cl (mCons_v rfl (mCons_v (show _ = some (.d (.list q7), [q1.map Wv.d, q3.map Wv.d, q2.map Wv.d, q3.map Wv.d, q4.map Wv.d, q4.map Wv.d, q5.map Wv.d, q5.map Wv.d, q7.map Wv.d, q6.map Wv.d]) from by kernel_rfl) rfl)) e)
theorem v_by_hand : g__law_by_hand_right [] [] = some (.d (.bool true), []) := by
  exact trim_d (S := []) (S1 := []) (T := [q1.map Wv.d, q3.map Wv.d, q2.map Wv.d, q3.map Wv.d, q4.map Wv.d, q4.map Wv.d, q5.map Wv.d, q5.map Wv.d, q7.map Wv.d, q6.map Wv.d]) (sem_rt (seq hand1 (seq hand2 (seq hand3 (seq hand4 (seq hand5 (seq hand6 (seq hand7 (seq hand8 (seq hand9 (seq hand10 (seq hand11 (seq hand12 (seq hand13 (seq hand14 (seq hand15 (seq hand16 (seq hand17 (seq hand18 (seq hand19 hand20)))))))))))))))))))) rfl rfl
end K15
set_option Elab.async false
set_option linter.all false
set_option maxRecDepth 100000
set_option maxHeartbeats 4000000
set_option autoImplicit false
namespace K15
open PySem PySem.Spec PyProof.Rows L2
theorem v_law (ns : List Int) (hn : ns.length < 1000) : ∃ S', g_law [.scr ns] [] = some (.d (.bool true), S') := by
  obtain ⟨n, z, S1, e1, g1, ok1⟩ := v_cells (S := []) ns hn rfl
  obtain ⟨t, e2, ht⟩ := v_box g1
  obtain ⟨t', e3⟩ := v_right (fun F h => mth h) (ok1.app (ok_tl _ t)) get_last ht
  refine ⟨(S1 ++ [tl t]).set S1.length (tl t'), sem_rt (mRet_w ?_)⟩
  unfold mAnd
  rw [cl (f := g__law_by_hand_right) (δ := startD 1 [.scr ns]) (show mNil _ [] = some ([], []) from rfl) v_by_hand, Option.bind_some]
  exact cl (mCons_v (cl (mCons_v (cl (mCons_v rfl (mCons_v rfl rfl)) e1) (mCons_v rfl rfl)) e2) rfl) e3
end K15
set_option Elab.async false
set_option linter.all false
set_option maxRecDepth 100000
set_option maxHeartbeats 0
set_option autoImplicit false
namespace K15
open PySem PySem.Spec PyProof.Rows L2
def topS (i : Nat) : Stmt := PySem.Challenge.pw_halfring_k15_whole_life_or_reason.main.body.getD i (.Pass ⟨0, 0, 0, 0⟩)
def dD_is_number : He.DefD := ⟨("is_number", none), "is_number", "is_number", defArgs (topS 4), defBody (topS 4), defScope (topS 4), [], []⟩
def dD_is_from : He.DefD := ⟨("is_from", none), "is_from", "is_from", defArgs (topS 5), defBody (topS 5), defScope (topS 5), [], []⟩
def dD_is_within : He.DefD := ⟨("is_within", none), "is_within", "is_within", defArgs (topS 6), defBody (topS 6), defScope (topS 6), [], []⟩
def dD_is_long : He.DefD := ⟨("is_long", none), "is_long", "is_long", defArgs (topS 7), defBody (topS 7), defScope (topS 7), [], []⟩
def dD_tupled : He.DefD := ⟨("tupled", none), "tupled", "tupled", defArgs (topS 8), defBody (topS 8), defScope (topS 8), [], []⟩
def dD_is_word : He.DefD := ⟨("is_word", none), "is_word", "is_word", defArgs (topS 12), defBody (topS 12), defScope (topS 12), [], []⟩
def dD_is_key : He.DefD := ⟨("is_key", none), "is_key", "is_key", defArgs (topS 13), defBody (topS 13), defScope (topS 13), [], []⟩
def dD_is_single : He.DefD := ⟨("is_single", none), "is_single", "is_single", defArgs (topS 14), defBody (topS 14), defScope (topS 14), [], []⟩
def dD_is_record : He.DefD := ⟨("is_record", none), "is_record", "is_record", defArgs (topS 15), defBody (topS 15), defScope (topS 15), [], []⟩
def dD_is_shape : He.DefD := ⟨("is_shape", none), "is_shape", "is_shape", defArgs (topS 17), defBody (topS 17), defScope (topS 17), [], []⟩
def dD_sure_shape : He.DefD := ⟨("sure_shape", none), "sure_shape", "sure_shape", defArgs (topS 18), defBody (topS 18), defScope (topS 18), [], []⟩
def dD_mark_in : He.DefD := ⟨("mark_in", none), "mark_in", "mark_in", defArgs (topS 19), defBody (topS 19), defScope (topS 19), [], []⟩
def dD_place_in : He.DefD := ⟨("place_in", none), "place_in", "place_in", defArgs (topS 20), defBody (topS 20), defScope (topS 20), [], []⟩
def dD_is_told_cell : He.DefD := ⟨("is_told_cell", none), "is_told_cell", "is_told_cell", defArgs (topS 25), defBody (topS 25), defScope (topS 25), [], []⟩
def dD_is_cell_in : He.DefD := ⟨("is_cell_in", none), "is_cell_in", "is_cell_in", defArgs (topS 26), defBody (topS 26), defScope (topS 26), [], []⟩
def dD_is_picture_in : He.DefD := ⟨("is_picture_in", none), "is_picture_in", "is_picture_in", defArgs (topS 27), defBody (topS 27), defScope (topS 27), [], []⟩
def dD_sure_picture : He.DefD := ⟨("sure_picture", none), "sure_picture", "sure_picture", defArgs (topS 28), defBody (topS 28), defScope (topS 28), [], []⟩
def dD_are_fates : He.DefD := ⟨("are_fates", none), "are_fates", "are_fates", defArgs (topS 29), defBody (topS 29), defScope (topS 29), [], []⟩
def dD_fallen : He.DefD := ⟨("fallen", none), "fallen", "fallen", defArgs (topS 30), defBody (topS 30), defScope (topS 30), [], []⟩
def dD_view_in : He.DefD := ⟨("view_in", none), "view_in", "view_in", defArgs (topS 31), defBody (topS 31), defScope (topS 31), [], []⟩
def dD_sure_both : He.DefD := ⟨("sure_both", none), "sure_both", "sure_both", defArgs (topS 33), defBody (topS 33), defScope (topS 33), [], []⟩
def dD_sure_place : He.DefD := ⟨("sure_place", none), "sure_place", "sure_place", defArgs (topS 34), defBody (topS 34), defScope (topS 34), [], []⟩
def dD_shows_in : He.DefD := ⟨("shows_in", none), "shows_in", "shows_in", defArgs (topS 35), defBody (topS 35), defScope (topS 35), [], []⟩
def dD_run_in : He.DefD := ⟨("run_in", none), "run_in", "run_in", defArgs (topS 36), defBody (topS 36), defScope (topS 36), [], []⟩
def dD_places_in : He.DefD := ⟨("places_in", none), "places_in", "places_in", defArgs (topS 37), defBody (topS 37), defScope (topS 37), [], []⟩
def dD_gaps_in : He.DefD := ⟨("gaps_in", none), "gaps_in", "gaps_in", defArgs (topS 38), defBody (topS 38), defScope (topS 38), [], []⟩
def dD_far_in : He.DefD := ⟨("far_in", none), "far_in", "far_in", defArgs (topS 39), defBody (topS 39), defScope (topS 39), [], []⟩
def dD_answer_in : He.DefD := ⟨("answer_in", none), "answer_in", "answer_in", defArgs (topS 40), defBody (topS 40), defScope (topS 40), [], []⟩
def dD_synced_in : He.DefD := ⟨("synced_in", none), "synced_in", "synced_in", defArgs (topS 45), defBody (topS 45), defScope (topS 45), [], []⟩
def dD_logged_in : He.DefD := ⟨("logged_in", none), "logged_in", "logged_in", defArgs (topS 46), defBody (topS 46), defScope (topS 46), [], []⟩
def dD_stood_in : He.DefD := ⟨("stood_in", none), "stood_in", "stood_in", defArgs (topS 47), defBody (topS 47), defScope (topS 47), [], []⟩
def dD_writes_at : He.DefD := ⟨("writes_at", none), "writes_at", "writes_at", defArgs (topS 48), defBody (topS 48), defScope (topS 48), [], []⟩
def dD_begun_life : He.DefD := ⟨("begun_life", none), "begun_life", "begun_life", defArgs (topS 49), defBody (topS 49), defScope (topS 49), [], []⟩
def dD_behind_awake : He.DefD := ⟨("behind_awake", none), "behind_awake", "behind_awake", defArgs (topS 50), defBody (topS 50), defScope (topS 50), [], []⟩
def dD_behind_asleep : He.DefD := ⟨("behind_asleep", none), "behind_asleep", "behind_asleep", defArgs (topS 51), defBody (topS 51), defScope (topS 51), [], []⟩
def dD_life_in : He.DefD := ⟨("life_in", none), "life_in", "life_in", defArgs (topS 52), defBody (topS 52), defScope (topS 52), [], []⟩
def dD_bars_in : He.DefD := ⟨("bars_in", none), "bars_in", "bars_in", defArgs (topS 55), defBody (topS 55), defScope (topS 55), [], []⟩
def dD_bars : He.DefD := ⟨("bars", none), "bars", "bars", defArgs (topS 56), defBody (topS 56), defScope (topS 56), [], []⟩
def dD_all_bars : He.DefD := ⟨("all_bars", none), "all_bars", "all_bars", defArgs (topS 57), defBody (topS 57), defScope (topS 57), [], []⟩
def dD_can_lie_in : He.DefD := ⟨("can_lie_in", none), "can_lie_in", "can_lie_in", defArgs (topS 58), defBody (topS 58), defScope (topS 58), [], []⟩
def dD_can_lie : He.DefD := ⟨("can_lie", none), "can_lie", "can_lie", defArgs (topS 59), defBody (topS 59), defScope (topS 59), [], []⟩
def dD_stood_record : He.DefD := ⟨("stood_record", none), "stood_record", "stood_record", defArgs (topS 60), defBody (topS 60), defScope (topS 60), [], []⟩
def dD_flown_at : He.DefD := ⟨("flown_at", none), "flown_at", "flown_at", defArgs (topS 61), defBody (topS 61), defScope (topS 61), [], []⟩
def dD_life_to : He.DefD := ⟨("life_to", none), "life_to", "life_to", defArgs (topS 62), defBody (topS 62), defScope (topS 62), [], []⟩
def dD_is_life_to : He.DefD := ⟨("is_life_to", none), "is_life_to", "is_life_to", defArgs (topS 63), defBody (topS 63), defScope (topS 63), [], []⟩
def dD_reason : He.DefD := ⟨("reason", none), "reason", "reason", defArgs (topS 64), defBody (topS 64), defScope (topS 64), [], []⟩
def dD_is_reason : He.DefD := ⟨("is_reason", none), "is_reason", "is_reason", defArgs (topS 65), defBody (topS 65), defScope (topS 65), [], []⟩
def dD__law_box : He.DefD := ⟨("_law_box", none), "_law_box", "_law_box", defArgs (topS 67), defBody (topS 67), defScope (topS 67), [], []⟩
def dD__law_take : He.DefD := ⟨("_law_take", none), "_law_take", "_law_take", defArgs (topS 68), defBody (topS 68), defScope (topS 68), [], []⟩
def dD__law_cells : He.DefD := ⟨("_law_cells", none), "_law_cells", "_law_cells", defArgs (topS 69), defBody (topS 69), defScope (topS 69), [], []⟩
def dD__law_of : He.DefD := ⟨("_law_of", none), "_law_of", "_law_of", defArgs (topS 70), defBody (topS 70), defScope (topS 70), [], []⟩
def dD__law_pick : He.DefD := ⟨("_law_pick", none), "_law_pick", "_law_pick", defArgs (topS 71), defBody (topS 71), defScope (topS 71), [], []⟩
def dD__law_lists : He.DefD := ⟨("_law_lists", none), "_law_lists", "_law_lists", defArgs (topS 72), defBody (topS 72), defScope (topS 72), [], []⟩
def dD__law_same : He.DefD := ⟨("_law_same", none), "_law_same", "_law_same", defArgs (topS 73), defBody (topS 73), defScope (topS 73), [], []⟩
def dD__law_lap : He.DefD := ⟨("_law_lap", none), "_law_lap", "_law_lap", defArgs (topS 74), defBody (topS 74), defScope (topS 74), [], []⟩
def dD__law_shows : He.DefD := ⟨("_law_shows", none), "_law_shows", "_law_shows", defArgs (topS 75), defBody (topS 75), defScope (topS 75), [], []⟩
def dD__law_wholes : He.DefD := ⟨("_law_wholes", none), "_law_wholes", "_law_wholes", defArgs (topS 76), defBody (topS 76), defScope (topS 76), [], []⟩
def dD__law_answer : He.DefD := ⟨("_law_answer", none), "_law_answer", "_law_answer", defArgs (topS 77), defBody (topS 77), defScope (topS 77), [], []⟩
def dD__law_blank : He.DefD := ⟨("_law_blank", none), "_law_blank", "_law_blank", defArgs (topS 78), defBody (topS 78), defScope (topS 78), [], []⟩
def dD__law_face : He.DefD := ⟨("_law_face", none), "_law_face", "_law_face", defArgs (topS 79), defBody (topS 79), defScope (topS 79), [], []⟩
def dD__law_gear : He.DefD := ⟨("_law_gear", none), "_law_gear", "_law_gear", defArgs (topS 80), defBody (topS 80), defScope (topS 80), [], []⟩
def dD__law_stand : He.DefD := ⟨("_law_stand", none), "_law_stand", "_law_stand", defArgs (topS 81), defBody (topS 81), defScope (topS 81), [], []⟩
def dD__law_write : He.DefD := ⟨("_law_write", none), "_law_write", "_law_write", defArgs (topS 82), defBody (topS 82), defScope (topS 82), [], []⟩
def dD__law_fates : He.DefD := ⟨("_law_fates", none), "_law_fates", "_law_fates", defArgs (topS 83), defBody (topS 83), defScope (topS 83), [], []⟩
def dD__law_fallen : He.DefD := ⟨("_law_fallen", none), "_law_fallen", "_law_fallen", defArgs (topS 84), defBody (topS 84), defScope (topS 84), [], []⟩
def dD__law_cut : He.DefD := ⟨("_law_cut", none), "_law_cut", "_law_cut", defArgs (topS 85), defBody (topS 85), defScope (topS 85), [], []⟩
def dD__law_mending : He.DefD := ⟨("_law_mending", none), "_law_mending", "_law_mending", defArgs (topS 86), defBody (topS 86), defScope (topS 86), [], []⟩
def dD__law_mend : He.DefD := ⟨("_law_mend", none), "_law_mend", "_law_mend", defArgs (topS 87), defBody (topS 87), defScope (topS 87), [], []⟩
def dD__law_any_form : He.DefD := ⟨("_law_any_form", none), "_law_any_form", "_law_any_form", defArgs (topS 88), defBody (topS 88), defScope (topS 88), [], []⟩
def dD__law_note : He.DefD := ⟨("_law_note", none), "_law_note", "_law_note", defArgs (topS 89), defBody (topS 89), defScope (topS 89), [], []⟩
def dD__law_any_face : He.DefD := ⟨("_law_any_face", none), "_law_any_face", "_law_any_face", defArgs (topS 90), defBody (topS 90), defScope (topS 90), [], []⟩
def dD__law_bars : He.DefD := ⟨("_law_bars", none), "_law_bars", "_law_bars", defArgs (topS 91), defBody (topS 91), defScope (topS 91), [], []⟩
def dD__law_is_note : He.DefD := ⟨("_law_is_note", none), "_law_is_note", "_law_is_note", defArgs (topS 92), defBody (topS 92), defScope (topS 92), [], []⟩
def dD__law_are_fates : He.DefD := ⟨("_law_are_fates", none), "_law_are_fates", "_law_are_fates", defArgs (topS 93), defBody (topS 93), defScope (topS 93), [], []⟩
def dD__law_went : He.DefD := ⟨("_law_went", none), "_law_went", "_law_went", defArgs (topS 94), defBody (topS 94), defScope (topS 94), [], []⟩
def dD__law_face_behind : He.DefD := ⟨("_law_face_behind", none), "_law_face_behind", "_law_face_behind", defArgs (topS 95), defBody (topS 95), defScope (topS 95), [], []⟩
def dD__law_drawn_life : He.DefD := ⟨("_law_drawn_life", none), "_law_drawn_life", "_law_drawn_life", defArgs (topS 96), defBody (topS 96), defScope (topS 96), [], []⟩
def dD__law_heard : He.DefD := ⟨("_law_heard", none), "_law_heard", "_law_heard", defArgs (topS 97), defBody (topS 97), defScope (topS 97), [], []⟩
def dD__law_by_hand_right : He.DefD := ⟨("_law_by_hand_right", none), "_law_by_hand_right", "_law_by_hand_right", defArgs (topS 98), defBody (topS 98), defScope (topS 98), [], []⟩
def dD__law_is_reason : He.DefD := ⟨("_law_is_reason", none), "_law_is_reason", "_law_is_reason", defArgs (topS 99), defBody (topS 99), defScope (topS 99), [], []⟩
def dD__law_judged_right : He.DefD := ⟨("_law_judged_right", none), "_law_judged_right", "_law_judged_right", defArgs (topS 100), defBody (topS 100), defScope (topS 100), [], []⟩
def dD__law_right : He.DefD := ⟨("_law_right", none), "_law_right", "_law_right", defArgs (topS 101), defBody (topS 101), defScope (topS 101), [], []⟩
def dD_law : He.DefD := ⟨("law", none), "law", "law", defArgs (topS 102), defBody (topS 102), defScope (topS 102), [], []⟩
def fn : List He.DefD := [dD_is_number, dD_is_from, dD_is_within, dD_is_long, dD_tupled, dD_is_word, dD_is_key, dD_is_single, dD_is_record, dD_is_shape, dD_sure_shape, dD_mark_in, dD_place_in, dD_is_told_cell, dD_is_cell_in, dD_is_picture_in, dD_sure_picture, dD_are_fates, dD_fallen, dD_view_in, dD_sure_both, dD_sure_place, dD_shows_in, dD_run_in, dD_places_in, dD_gaps_in, dD_far_in, dD_answer_in, dD_synced_in, dD_logged_in, dD_stood_in, dD_writes_at, dD_begun_life, dD_behind_awake, dD_behind_asleep, dD_life_in, dD_bars_in, dD_bars, dD_all_bars, dD_can_lie_in, dD_can_lie, dD_stood_record, dD_flown_at, dD_life_to, dD_is_life_to, dD_reason, dD_is_reason, dD__law_box, dD__law_take, dD__law_cells, dD__law_of, dD__law_pick, dD__law_lists, dD__law_same, dD__law_lap, dD__law_shows, dD__law_wholes, dD__law_answer, dD__law_blank, dD__law_face, dD__law_gear, dD__law_stand, dD__law_write, dD__law_fates, dD__law_fallen, dD__law_cut, dD__law_mending, dD__law_mend, dD__law_any_form, dD__law_note, dD__law_any_face, dD__law_bars, dD__law_is_note, dD__law_are_fates, dD__law_went, dD__law_face_behind, dD__law_drawn_life, dD__law_heard, dD__law_by_hand_right, dD__law_is_reason, dD__law_judged_right, dD__law_right, dD_law]
def fa : List He.Fa := [.glo "is_number", .glo "is_from", .glo "is_within", .glo "is_long", .glo "tupled", .glo "is_word", .glo "is_key", .glo "is_single", .glo "is_record", .glo "is_shape", .glo "sure_shape", .glo "mark_in", .glo "place_in", .glo "is_told_cell", .glo "is_cell_in", .glo "is_picture_in", .glo "sure_picture", .glo "are_fates", .glo "fallen", .glo "view_in", .glo "sure_both", .glo "sure_place", .glo "shows_in", .glo "run_in", .glo "places_in", .glo "gaps_in", .glo "far_in", .glo "answer_in", .glo "synced_in", .glo "logged_in", .glo "stood_in", .glo "writes_at", .glo "begun_life", .glo "behind_awake", .glo "behind_asleep", .glo "life_in", .glo "bars_in", .glo "bars", .glo "all_bars", .glo "can_lie_in", .glo "can_lie", .glo "stood_record", .glo "flown_at", .glo "life_to", .glo "is_life_to", .glo "reason", .glo "is_reason", .glo "_law_box", .glo "_law_take", .glo "_law_cells", .glo "_law_of", .glo "_law_pick", .glo "_law_lists", .glo "_law_same", .glo "_law_lap", .glo "_law_shows", .glo "_law_wholes", .glo "_law_answer", .glo "_law_blank", .glo "_law_face", .glo "_law_gear", .glo "_law_stand", .glo "_law_write", .glo "_law_fates", .glo "_law_fallen", .glo "_law_cut", .glo "_law_mending", .glo "_law_mend", .glo "_law_any_form", .glo "_law_note", .glo "_law_any_face", .glo "_law_bars", .glo "_law_is_note", .glo "_law_are_fates", .glo "_law_went", .glo "_law_face_behind", .glo "_law_drawn_life", .glo "_law_heard", .glo "_law_by_hand_right", .glo "_law_is_reason", .glo "_law_judged_right", .glo "_law_right", .glo "law", .free "isinstance", .free "len", .free "all", .free "tuple", .free "list", .free "range", .free "zip", .free "enumerate", .free "sorted", .free "int", .free "abs", .free "min", .free "bool", .free "str", .free "ValueError", .exc "CanNot", .exc "Unfit", .glo "CanNot", .glo "Unfit", .str "SIGNS" "abcdefghijklmnopqrstuvwxyz0123456789", .int "LONGEST" 12, .glo "TORN_devices", .str "OLD" "old", .str "NEW_devices" "new", .glo "TORN_log", .glo "BLANK_log", .str "NEW_log" "new", .glo "BLANK_examiner"]
def exA (K : PySem.W.Frag) : Bool := He.tupB K "TORN_devices" [.str "torn"] && He.tupB K "TORN_log" [.str "torn"] && He.tupB K "BLANK_log" [.str "blank"] && He.tupB K "BLANK_examiner" [.str "blank"]
def exC (K : PySem.W.Frag) : Bool := decide (PySem.W.exmOne K (.ref (He.ga K "CanNot")) (.ref (He.ga K "CanNot")) = some true) && decide (PySem.W.kitOne K (.ref (He.ga K "CanNot")) (.type "ValueError") = some true) && decide (PySem.W.findIn K (.ref (He.ga K "CanNot")) "__getattribute__" = some (some (.builtin "BaseException.__getattribute__"))) && decide (PySem.W.findIn K (.ref (He.ga K "CanNot")) "__getattr__" = some none) && decide (PySem.W.subIn K (.ref (He.ga K "CanNot")) (.type "BaseException") = some true) && decide (PySem.W.hasDictIn K (He.ga K "CanNot") = true) && decide (PySem.W.findIn K (.ref (He.ga K "CanNot")) "__class__" = some (some (.builtin "object.__class__"))) && decide (PySem.W.specialIn K (.builtin "object.__class__") "__get__" = some (some (.builtin "getset_descriptor.__get__"))) && decide (PySem.W.takesIn K (.builtin "object.__class__") = some true) && decide (PySem.W.mroIn K (He.ga K "CanNot") (.type "object") = some true)
def ex (K : PySem.W.Frag) : Bool := exA K && exC K
/-- what the top says -/
structure Top (K : PySem.W.Frag) (mg : Str → Option Value) : Prop where
  says : He.SaysD fa fn K
  ns : ∃ h : Heap, K.In h ∧ h.Ns mainGlobals mg
  xs : ex K = true
section
variable {K : PySem.W.Frag} {mg : Str → Option Value}
theorem Top.glo (T : Top K mg) (i : Nat) {x : Str} (h : fa[i]? = some (.glo x) := by rfl) : mg x = some (.ref (He.ga K x)) := let ⟨_, X, G⟩ := T.ns; He.glo_ok X G (T.says.fact i h)
theorem Top.free (T : Top K mg) (i : Nat) {x : Str} (h : fa[i]? = some (.free x) := by rfl) : mg x = none := let ⟨_, X, G⟩ := T.ns; He.free_ok X G (T.says.fact i h)
theorem Top.str (T : Top K mg) (i : Nat) {x z : Str} (h : fa[i]? = some (.str x z) := by rfl) : ∃ t, mg x = some (.str z t) := let ⟨_, X, G⟩ := T.ns; He.str_ok X G (T.says.fact i h)
theorem Top.int (T : Top K mg) (i : Nat) {x : Str} {z : Int} (h : fa[i]? = some (.int x z) := by rfl) : ∃ t, mg x = some (.int z t) := let ⟨_, X, G⟩ := T.ns; He.int_ok X G (T.says.fact i h)
theorem ba3 {a b : Bool} (h : (a && b) = true) : a = true ∧ b = true := Bool.and_eq_true_iff.mp h
theorem Top.fr_isinstance (T : Top K mg) : mg "isinstance" = none := T.free 83
theorem Top.fr_len (T : Top K mg) : mg "len" = none := T.free 84
theorem Top.fr_all (T : Top K mg) : mg "all" = none := T.free 85
theorem Top.fr_tuple (T : Top K mg) : mg "tuple" = none := T.free 86
theorem Top.fr_list (T : Top K mg) : mg "list" = none := T.free 87
theorem Top.fr_range (T : Top K mg) : mg "range" = none := T.free 88
theorem Top.fr_zip (T : Top K mg) : mg "zip" = none := T.free 89
theorem Top.fr_enumerate (T : Top K mg) : mg "enumerate" = none := T.free 90
theorem Top.fr_sorted (T : Top K mg) : mg "sorted" = none := T.free 91
theorem Top.fr_int (T : Top K mg) : mg "int" = none := T.free 92
theorem Top.fr_abs (T : Top K mg) : mg "abs" = none := T.free 93
theorem Top.fr_min (T : Top K mg) : mg "min" = none := T.free 94
theorem Top.fr_bool (T : Top K mg) : mg "bool" = none := T.free 95
theorem Top.fr_str (T : Top K mg) : mg "str" = none := T.free 96
theorem Top.fr_ValueError (T : Top K mg) : mg "ValueError" = none := T.free 97
theorem Top.tp_TORN_devices (T : Top K mg) (H : Hp) : SqT K H (He.ga K "TORN_devices") [.str "torn"] := He.tupB_ok (vs := [.str "torn"]) (ba3 (ba3 (ba3 (ba3 T.xs).1).1).1).1 H
theorem Top.tp_TORN_log (T : Top K mg) (H : Hp) : SqT K H (He.ga K "TORN_log") [.str "torn"] := He.tupB_ok (vs := [.str "torn"]) (ba3 (ba3 (ba3 (ba3 T.xs).1).1).1).2 H
theorem Top.tp_BLANK_log (T : Top K mg) (H : Hp) : SqT K H (He.ga K "BLANK_log") [.str "blank"] := He.tupB_ok (vs := [.str "blank"]) (ba3 (ba3 (ba3 T.xs).1).1).2 H
theorem Top.tp_BLANK_examiner (T : Top K mg) (H : Hp) : SqT K H (He.ga K "BLANK_examiner") [.str "blank"] := He.tupB_ok (vs := [.str "blank"]) (ba3 (ba3 T.xs).1).2 H
theorem Top.xc0 (T : Top K mg) : PySem.W.exmOne K (.ref (He.ga K "CanNot")) (.ref (He.ga K "CanNot")) = some true := of_decide_eq_true (ba3 (ba3 (ba3 (ba3 (ba3 (ba3 (ba3 (ba3 (ba3 (ba3 T.xs).2).1).1).1).1).1).1).1).1).1
theorem Top.xc1 (T : Top K mg) : PySem.W.kitOne K (.ref (He.ga K "CanNot")) (.type "ValueError") = some true := of_decide_eq_true (ba3 (ba3 (ba3 (ba3 (ba3 (ba3 (ba3 (ba3 (ba3 (ba3 T.xs).2).1).1).1).1).1).1).1).1).2
theorem Top.xc2 (T : Top K mg) : PySem.W.findIn K (.ref (He.ga K "CanNot")) "__getattribute__" = some (some (.builtin "BaseException.__getattribute__")) := of_decide_eq_true (ba3 (ba3 (ba3 (ba3 (ba3 (ba3 (ba3 (ba3 (ba3 T.xs).2).1).1).1).1).1).1).1).2
theorem Top.xc3 (T : Top K mg) : PySem.W.findIn K (.ref (He.ga K "CanNot")) "__getattr__" = some none := of_decide_eq_true (ba3 (ba3 (ba3 (ba3 (ba3 (ba3 (ba3 (ba3 T.xs).2).1).1).1).1).1).1).2
theorem Top.xc4 (T : Top K mg) : PySem.W.subIn K (.ref (He.ga K "CanNot")) (.type "BaseException") = some true := of_decide_eq_true (ba3 (ba3 (ba3 (ba3 (ba3 (ba3 (ba3 T.xs).2).1).1).1).1).1).2
theorem Top.xc5 (T : Top K mg) : PySem.W.hasDictIn K (He.ga K "CanNot") = true := of_decide_eq_true (ba3 (ba3 (ba3 (ba3 (ba3 (ba3 T.xs).2).1).1).1).1).2
theorem Top.xc6 (T : Top K mg) : PySem.W.findIn K (.ref (He.ga K "CanNot")) "__class__" = some (some (.builtin "object.__class__")) := of_decide_eq_true (ba3 (ba3 (ba3 (ba3 (ba3 T.xs).2).1).1).1).2
theorem Top.xc7 (T : Top K mg) : PySem.W.specialIn K (.builtin "object.__class__") "__get__" = some (some (.builtin "getset_descriptor.__get__")) := of_decide_eq_true (ba3 (ba3 (ba3 (ba3 T.xs).2).1).1).2
theorem Top.xc8 (T : Top K mg) : PySem.W.takesIn K (.builtin "object.__class__") = some true := of_decide_eq_true (ba3 (ba3 (ba3 T.xs).2).1).2
theorem Top.xc9 (T : Top K mg) : PySem.W.mroIn K (He.ga K "CanNot") (.type "object") = some true := of_decide_eq_true (ba3 (ba3 T.xs).2).2
theorem Top.excC (T : Top K mg) : ExcC K (He.ga K "CanNot") := ⟨T.xc2, T.xc3, T.xc4, T.xc5, T.xc6, T.xc7, T.xc8, T.xc9⟩
theorem Top.cannot (T : Top K mg) : mg "CanNot" = some (.ref (He.ga K "CanNot")) := T.glo 100
theorem Top.excIn (T : Top K mg) : PySem.W.excIn K (He.ga K "CanNot") He.veBase "ValueError.__new__" = true ∧ PySem.W.keepIn K (.ref (He.ga K "CanNot")) = true ∧ PySem.W.subIn K (.ref (He.ga K "CanNot")) (.type "BaseException") = some true ∧ PySem.W.typeIn K (.ref (He.ga K "CanNot")) = some (.type "type") := He.exc_ok (T.says.fact 98 (f := .exc "CanNot") rfl)
end
theorem bt_len : bootBuiltins "len" = some (.builtin "len") := by decide +kernel
theorem bt_isinstance : bootBuiltins "isinstance" = some (.builtin "isinstance") := by decide +kernel
theorem bt_all : bootBuiltins "all" = some (.builtin "all") := by decide +kernel
theorem bt_abs : bootBuiltins "abs" = some (.builtin "abs") := by decide +kernel
theorem bt_min : bootBuiltins "min" = some (.builtin "min") := by decide +kernel
theorem bt_sorted : bootBuiltins "sorted" = some (.builtin "sorted") := by decide +kernel
theorem bt_int : bootBuiltins "int" = some (.type "int") := by decide +kernel
theorem bt_bool : bootBuiltins "bool" = some (.type "bool") := by decide +kernel
theorem bt_str : bootBuiltins "str" = some (.type "str") := by decide +kernel
theorem bt_list : bootBuiltins "list" = some (.type "list") := by decide +kernel
theorem bt_tuple : bootBuiltins "tuple" = some (.type "tuple") := by decide +kernel
theorem bt_ValueError : bootBuiltins "ValueError" = some (.type "ValueError") := by decide +kernel
section
variable {X : Cx} {pos : Pos}
theorem gl_SIGNS (T : Top X.K X.mg) (hg : Gl X "SIGNS") : DE X (.Name "SIGNS" pos) (mC (.str "abcdefghijklmnopqrstuvwxyz0123456789")) := let ⟨t, e⟩ := T.str 102 (x := "SIGNS") (z := "abcdefghijklmnopqrstuvwxyz0123456789"); de_glob hg e (v := .str "abcdefghijklmnopqrstuvwxyz0123456789") ⟨t, rfl⟩ (fun _ _ => .str _)
theorem gl_LONGEST (T : Top X.K X.mg) (hg : Gl X "LONGEST") : DE X (.Name "LONGEST" pos) (mC (.int 12)) := let ⟨t, e⟩ := T.int 103 (x := "LONGEST") (z := 12); de_glob hg e (v := .int 12) ⟨t, rfl⟩ (fun _ _ => .int _)
theorem gl_TORN_devices (T : Top X.K X.mg) (hg : Gl X "TORN_devices") : DE X (.Name "TORN_devices" pos) (mC (.tuple [.str "torn"])) := de_glob hg (T.glo 104 (x := "TORN_devices")) (v := .ref (He.ga X.K "TORN_devices")) rfl (fun _ H => RD.tup (T.tp_TORN_devices H) (.cons (.str _) .nil))
theorem gl_OLD (T : Top X.K X.mg) (hg : Gl X "OLD") : DE X (.Name "OLD" pos) (mC (.str "old")) := let ⟨t, e⟩ := T.str 105 (x := "OLD") (z := "old"); de_glob hg e (v := .str "old") ⟨t, rfl⟩ (fun _ _ => .str _)
theorem gl_NEW_devices (T : Top X.K X.mg) (hg : Gl X "NEW_devices") : DE X (.Name "NEW_devices" pos) (mC (.str "new")) := let ⟨t, e⟩ := T.str 106 (x := "NEW_devices") (z := "new"); de_glob hg e (v := .str "new") ⟨t, rfl⟩ (fun _ _ => .str _)
theorem gl_TORN_log (T : Top X.K X.mg) (hg : Gl X "TORN_log") : DE X (.Name "TORN_log" pos) (mC (.tuple [.str "torn"])) := de_glob hg (T.glo 107 (x := "TORN_log")) (v := .ref (He.ga X.K "TORN_log")) rfl (fun _ H => RD.tup (T.tp_TORN_log H) (.cons (.str _) .nil))
theorem gl_BLANK_log (T : Top X.K X.mg) (hg : Gl X "BLANK_log") : DE X (.Name "BLANK_log" pos) (mC (.tuple [.str "blank"])) := de_glob hg (T.glo 108 (x := "BLANK_log")) (v := .ref (He.ga X.K "BLANK_log")) rfl (fun _ H => RD.tup (T.tp_BLANK_log H) (.cons (.str _) .nil))
theorem gl_NEW_log (T : Top X.K X.mg) (hg : Gl X "NEW_log") : DE X (.Name "NEW_log" pos) (mC (.str "new")) := let ⟨t, e⟩ := T.str 109 (x := "NEW_log") (z := "new"); de_glob hg e (v := .str "new") ⟨t, rfl⟩ (fun _ _ => .str _)
theorem gl_BLANK_examiner (T : Top X.K X.mg) (hg : Gl X "BLANK_examiner") : DE X (.Name "BLANK_examiner" pos) (mC (.tuple [.str "blank"])) := de_glob hg (T.glo 110 (x := "BLANK_examiner")) (v := .ref (He.ga X.K "BLANK_examiner")) rfl (fun _ H => RD.tup (T.tp_BLANK_examiner H) (.cons (.str _) .nil))
theorem hv_of {k : Nat} {A : Around} (h : Room k A) : A.units + 64 < cLine := by have := h.un; omega
theorem KnX.mono {P : Program} {w : World} {K : PySem.W.Frag} {mg : Str → Option Value} {base : Heap} {C : Addr} {j k : Nat} {x : Str} {ps ks : List Str} {g : {β : Type} → List β → List β} {m : FX} (h : KnX P w K mg base C j x ps ks g m) (l : j ≤ k) : KnX P w K mg base C k x ps ks g m := by
  obtain ⟨f, fd, h1, h2, h3, h4⟩ := h.ex
  exact ⟨f, fd, h1, h2, h3, h4.mono l⟩
theorem hu_of {k : Nat} {A : Around} (h : Room k A) : A.units + 65 < cLine := by have := h.un; omega
end
end K15
set_option Elab.async false
set_option linter.all false
set_option maxRecDepth 100000
set_option maxHeartbeats 4000000
set_option autoImplicit false
namespace K15
open PySem PySem.Spec PyProof.Rows L2
theorem len_g2 {a b c d : Str} : ∀ ws : List Wv, ws.length = [a, b].length → (g2 ws).length = [c, d].length := fun ws h => match ws, h with | [_, _], _ => rfl
theorem len_g3 {a b c d e f : Str} : ∀ ws : List Wv, ws.length = [a, b, c].length → (g3 ws).length = [d, e, f].length := fun ws h => match ws, h with | [_, _, _], _ => rfl
theorem sc_is_number : FnScope ["thing"] ["thing"] (defScope (topS 4)) := ⟨rfl, rfl, rfl, by decide +kernel, rfl, by decide +kernel, by decide +kernel⟩
theorem kn_is_number {P : Program} {w : World} {K : PySem.W.Frag} {mg : Str → Option Value} {base : Heap} (T : Top K mg) : Kn P w K mg base 1 "is_number" ["thing"] g_is_number := by
  obtain ⟨fd, F⟩ := T.says.def_ 0 (d := dD_is_number) rfl
  exact kn_of (N := ["thing"]) (m := m_is_number) F (T.glo 0) sc_is_number (F.bindsN fun _ _ _ _ _ _ us hl => match us, hl with | [_], _ => rfl) (fun cdv A outer s H E hr => have sc := sc_is_number; have hu := hu_of hr; have hv := hv_of hr; (dss_one (ds_ret (de_and (de_callB call_isiA c_isi rfl T.fr_isinstance bt_isinstance (da_cons (de_var 0) (da_cons (de_ty (n := .int) rfl T.fr_int bt_int) da_nil))) (de_one (de_not (de_callB call_isiA c_isi rfl T.fr_isinstance bt_isinstance (da_cons (de_var 0) (da_cons (de_ty (n := .bool) rfl T.fr_bool bt_bool) da_nil)))))))))
theorem sc_is_from : FnScope ["thing", "least"] ["thing", "least"] (defScope (topS 5)) := ⟨rfl, rfl, rfl, by decide +kernel, rfl, by decide +kernel, by decide +kernel⟩
theorem kn_is_from {P : Program} {w : World} {K : PySem.W.Frag} {mg : Str → Option Value} {base : Heap} (T : Top K mg) : Kn P w K mg base 2 "is_from" ["thing", "least"] g_is_from := by
  obtain ⟨fd, F⟩ := T.says.def_ 1 (d := dD_is_from) rfl
  exact kn_of (N := ["thing", "least"]) (m := m_is_from) F (T.glo 1) sc_is_from (F.bindsN fun _ _ _ _ _ _ us hl => match us, hl with | [_, _], _ => rfl) (fun cdv A outer s H E hr => have sc := sc_is_from; have hu := hu_of hr; have hv := hv_of hr; (dss_one (ds_ret (de_and (de_call ((kn_is_number T).mono (by omega)) hr rfl (da_cons (de_var 0) da_nil) (lenA_cons lenA_nil)) (de_one (de_cmp op_ge o_int (de_var 0) (de_var 1) rfl))))))
theorem sc_is_within : FnScope ["thing", "least", "most"] ["thing", "least", "most"] (defScope (topS 6)) := ⟨rfl, rfl, rfl, by decide +kernel, rfl, by decide +kernel, by decide +kernel⟩
theorem kn_is_within {P : Program} {w : World} {K : PySem.W.Frag} {mg : Str → Option Value} {base : Heap} (T : Top K mg) : Kn P w K mg base 2 "is_within" ["thing", "least", "most"] g_is_within := by
  obtain ⟨fd, F⟩ := T.says.def_ 2 (d := dD_is_within) rfl
  exact kn_of (N := ["thing", "least", "most"]) (m := m_is_within) F (T.glo 2) sc_is_within (F.bindsN fun _ _ _ _ _ _ us hl => match us, hl with | [_, _, _], _ => rfl) (fun cdv A outer s H E hr => have sc := sc_is_within; have hu := hu_of hr; have hv := hv_of hr; (dss_one (ds_ret (de_and (de_call ((kn_is_number T).mono (by omega)) hr rfl (da_cons (de_var 0) da_nil) (lenA_cons lenA_nil)) (de_one (de_chain op_le o_int op_le o_int (de_var 1) (de_var 0) (de_var 2)))))))
theorem sc_is_long : FnScope ["thing", "length"] ["thing", "length"] (defScope (topS 7)) := ⟨rfl, rfl, rfl, by decide +kernel, rfl, by decide +kernel, by decide +kernel⟩
theorem kn_is_long {P : Program} {w : World} {K : PySem.W.Frag} {mg : Str → Option Value} {base : Heap} (T : Top K mg) : Kn P w K mg base 1 "is_long" ["thing", "length"] g_is_long := by
  obtain ⟨fd, F⟩ := T.says.def_ 3 (d := dD_is_long) rfl
  exact kn_of (N := ["thing", "length"]) (m := m_is_long) F (T.glo 3) sc_is_long (F.bindsN fun _ _ _ _ _ _ us hl => match us, hl with | [_, _], _ => rfl) (fun cdv A outer s H E hr => have sc := sc_is_long; have hu := hu_of hr; have hv := hv_of hr; (dss_one (ds_ret (de_and (de_callB call_isiA c_isi rfl T.fr_isinstance bt_isinstance (da_cons (de_var 0) (da_cons (de_ty (n := .tuple) rfl T.fr_tuple bt_tuple) da_nil))) (de_one (de_cmp (op_eqD hv) o_eq (de_callB call_lenA c_len rfl T.fr_len bt_len (da_cons (de_var 0) da_nil)) (de_var 1) rfl))))))
theorem sc_tupled : FnScope ["value", "own"] ["value"] (defScope (topS 8)) := ⟨rfl, rfl, rfl, by decide +kernel, rfl, by decide +kernel, by decide +kernel⟩
theorem knR_tupled {P : Program} {w : World} {K : PySem.W.Frag} {mg : Str → Option Value} {base : Heap} (T : Top K mg) : ∀ d, Kn P w K mg base (1 + d) "tupled" ["value"] (gR_tupled d)
  | 0 => by
    obtain ⟨fd, F⟩ := T.says.def_ 4 (d := dD_tupled) rfl
    exact ((kn_of (k := 0) F (T.glo 4) sc_tupled (F.bindsN fun _ _ _ _ _ _ us hl => match us, hl with | [_], _ => rfl) fun cdv A outer s H E hr => dss_never).imp fun ws S r _ h => by cases h)
  | d + 1 => by
    have G0 := knR_tupled T d (P := P) (w := w) (base := base)
    obtain ⟨fd, F⟩ := T.says.def_ 4 (d := dD_tupled) rfl
    exact kn_of F (T.glo 4) sc_tupled (F.bindsN fun _ _ _ _ _ _ us hl => match us, hl with | [_], _ => rfl) fun cdv A outer s H E hr => have sc := sc_tupled; have hu := hu_of hr; have hv := hv_of hr; have G := G0; have g := gR_tupled d; (dss_one (ds_ret (de_if (dt_val (de_callB call_isiA c_isi rfl T.fr_isinstance bt_isinstance (da_cons (de_var 0) (da_cons (de_tupTy (da_cons (de_ty (n := .list) rfl T.fr_list bt_list) (da_cons (de_ty (n := .tuple) rfl T.fr_tuple bt_tuple) da_nil))) da_nil)))) (de_callTy call_tuple_of c_tuple rfl T.fr_tuple bt_tuple (da_cons (de_imm (df_lc (own := [("own", 1)]) rfl sc.nd (di_sq (de_var 0)) (blkOk_by (own := [("own", 1)]) (by kernel_rfl)) (fun s H C cl fp => (dn_name (i := 1) sc.nd rfl (Or.inl rfl))) (fun s H C cl fp => dts_nil) (fun s H C cl fp => (de_call G hr rfl (da_cons (de_var 1) da_nil) (lenA_cons lenA_nil))) (inN_name (by decide)))) da_nil)) (de_var 0))))
theorem kn_tupled {P : Program} {w : World} {K : PySem.W.Frag} {mg : Str → Option Value} {base : Heap} (T : Top K mg) : Kn P w K mg base 13 "tupled" ["value"] g_tupled := (knR_tupled T 12).mono (by decide)
theorem sc_is_word : FnScope ["thing", "sign"] ["thing"] (defScope (topS 12)) := ⟨rfl, rfl, rfl, by decide +kernel, rfl, by decide +kernel, by decide +kernel⟩
theorem kn_is_word {P : Program} {w : World} {K : PySem.W.Frag} {mg : Str → Option Value} {base : Heap} (T : Top K mg) : Kn P w K mg base 1 "is_word" ["thing"] g_is_word := by
  obtain ⟨fd, F⟩ := T.says.def_ 5 (d := dD_is_word) rfl
  exact kn_of (N := ["thing", "sign"]) (m := m_is_word) F (T.glo 5) sc_is_word (F.bindsN fun _ _ _ _ _ _ us hl => match us, hl with | [_], _ => rfl) (fun cdv A outer s H E hr => have sc := sc_is_word; have hu := hu_of hr; have hv := hv_of hr; (dss_one (ds_ret (de_and (de_callB call_isiA c_isi rfl T.fr_isinstance bt_isinstance (da_cons (de_var 0) (da_cons (de_ty (n := .str) rfl T.fr_str bt_str) da_nil))) (de_and (de_chain op_le o_int op_le o_int de_int (de_callB call_lenA c_len rfl T.fr_len bt_len (da_cons (de_var 0) da_nil)) (gl_LONGEST T rfl)) (de_one (de_callB (cr_all rfl) c_all rfl T.fr_all bt_all (da_cons (de_imm (df_lc (own := [("sign", 1)]) rfl sc.nd (di_str (de_var 0)) (blkOk_by (own := [("sign", 1)]) (by kernel_rfl)) (fun s H C cl fp => (dn_name (i := 1) sc.nd rfl (Or.inl rfl))) (fun s H C cl fp => dts_nil) (fun s H C cl fp => (de_cmp (op_inB hu) (o_in false) (de_var 1) (gl_SIGNS T rfl) rfl)) (inN_name (by decide)))) da_nil))))))))
theorem sc_is_key : FnScope ["thing"] ["thing"] (defScope (topS 13)) := ⟨rfl, rfl, rfl, by decide +kernel, rfl, by decide +kernel, by decide +kernel⟩
theorem kn_is_key {P : Program} {w : World} {K : PySem.W.Frag} {mg : Str → Option Value} {base : Heap} (T : Top K mg) : Kn P w K mg base 2 "is_key" ["thing"] g_is_key := by
  obtain ⟨fd, F⟩ := T.says.def_ 6 (d := dD_is_key) rfl
  exact kn_of (N := ["thing"]) (m := m_is_key) F (T.glo 6) sc_is_key (F.bindsN fun _ _ _ _ _ _ us hl => match us, hl with | [_], _ => rfl) (fun cdv A outer s H E hr => have sc := sc_is_key; have hu := hu_of hr; have hv := hv_of hr; (dss_one (ds_ret (de_or (de_call ((kn_is_word T).mono (by omega)) hr rfl (da_cons (de_var 0) da_nil) (lenA_cons lenA_nil)) (de_one (de_and (de_callB call_isiA c_isi rfl T.fr_isinstance bt_isinstance (da_cons (de_var 0) (da_cons (de_ty (n := .str) rfl T.fr_str bt_str) da_nil))) (de_and (de_cmp (op_eqD hv) o_eq (de_sl (de_var 0) do_none (do_some de_int)) de_str rfl) (de_one (de_call ((kn_is_word T).mono (by omega)) hr rfl (da_cons (de_sl (de_var 0) (do_some de_int) do_none) da_nil) (lenA_cons lenA_nil))))))))))
theorem sc_is_single : FnScope ["thing"] ["thing"] (defScope (topS 14)) := ⟨rfl, rfl, rfl, by decide +kernel, rfl, by decide +kernel, by decide +kernel⟩
theorem kn_is_single {P : Program} {w : World} {K : PySem.W.Frag} {mg : Str → Option Value} {base : Heap} (T : Top K mg) : Kn P w K mg base 3 "is_single" ["thing"] g_is_single := by
  obtain ⟨fd, F⟩ := T.says.def_ 7 (d := dD_is_single) rfl
  exact kn_of (N := ["thing"]) (m := m_is_single) F (T.glo 7) sc_is_single (F.bindsN fun _ _ _ _ _ _ us hl => match us, hl with | [_], _ => rfl) (fun cdv A outer s H E hr => have sc := sc_is_single; have hu := hu_of hr; have hv := hv_of hr; (dss_cons (ds_if (dt_w (dw_or (dt_not (dt_val (de_callB call_isiA c_isi rfl T.fr_isinstance bt_isinstance (da_cons (de_var 0) (da_cons (de_ty (n := .tuple) rfl T.fr_tuple bt_tuple) da_nil))))) (dw_or (dt_cmp op_lt o_int (de_callB call_lenA c_len rfl T.fr_len bt_len (da_cons (de_var 0) da_nil)) de_int rfl) (dw_or (dt_not (dt_val (de_callB call_isiA c_isi rfl T.fr_isinstance bt_isinstance (da_cons (de_ix (de_var 0) de_int fun _ _ => rfl) (da_cons (de_ty (n := .str) rfl T.fr_str bt_str) da_nil))))) (dw_or1 (dt_not (dt_val (de_call ((kn_is_key T).mono (by omega)) hr rfl (da_cons (de_ix (de_var 0) de_int fun _ _ => rfl) da_nil) (lenA_cons lenA_nil))))))))) (dss_one (ds_ret de_bl)) dss_nil) (dss_one (ds_ret (de_or (de_and (de_cmp (op_eqD hv) o_eq (de_ix (de_var 0) de_int fun _ _ => rfl) de_str rfl) (de_one (de_cmp (op_eqD hv) o_eq (de_callB call_lenA c_len rfl T.fr_len bt_len (da_cons (de_var 0) da_nil)) de_int rfl))) (de_one (de_and (de_cmp (op_eqD hv) o_eq (de_ix (de_var 0) de_int fun _ _ => rfl) de_str rfl) (de_and (de_cmp (op_eqD hv) o_eq (de_callB call_lenA c_len rfl T.fr_len bt_len (da_cons (de_var 0) da_nil)) de_int rfl) (de_one (de_call ((kn_is_word T).mono (by omega)) hr rfl (da_cons (de_ix (de_var 0) de_int fun _ _ => rfl) da_nil) (lenA_cons lenA_nil)))))))))))
theorem sc_is_record : FnScope ["thing"] ["thing"] (defScope (topS 15)) := ⟨rfl, rfl, rfl, by decide +kernel, rfl, by decide +kernel, by decide +kernel⟩
theorem kn_is_record {P : Program} {w : World} {K : PySem.W.Frag} {mg : Str → Option Value} {base : Heap} (T : Top K mg) : Kn P w K mg base 4 "is_record" ["thing"] g_is_record := by
  obtain ⟨fd, F⟩ := T.says.def_ 8 (d := dD_is_record) rfl
  exact kn_of (N := ["thing"]) (m := m_is_record) F (T.glo 8) sc_is_record (F.bindsN fun _ _ _ _ _ _ us hl => match us, hl with | [_], _ => rfl) (fun cdv A outer s H E hr => have sc := sc_is_record; have hu := hu_of hr; have hv := hv_of hr; (dss_cons (ds_if (dt_w (dw_or (dt_not (dt_val (de_callB call_isiA c_isi rfl T.fr_isinstance bt_isinstance (da_cons (de_var 0) (da_cons (de_ty (n := .tuple) rfl T.fr_tuple bt_tuple) da_nil))))) (dw_or (dt_cmp (op_eqD hv) o_eq (de_callB call_lenA c_len rfl T.fr_len bt_len (da_cons (de_var 0) da_nil)) de_int rfl) (dw_or1 (dt_not (dt_val (de_callB call_isiA c_isi rfl T.fr_isinstance bt_isinstance (da_cons (de_ix (de_var 0) de_int fun _ _ => rfl) (da_cons (de_ty (n := .str) rfl T.fr_str bt_str) da_nil))))))))) (dss_one (ds_ret de_bl)) dss_nil) (dss_cons (ds_if (dt_cmp (op_eqD hv) o_eq (de_ix (de_var 0) de_int fun _ _ => rfl) de_str rfl) (dss_one (ds_ret (de_cmp (op_eqD hv) o_eq (de_callB call_lenA c_len rfl T.fr_len bt_len (da_cons (de_var 0) da_nil)) de_int rfl))) dss_nil) (dss_one (ds_ret (de_and (de_cmp op_gt o_int (de_callB call_lenA c_len rfl T.fr_len bt_len (da_cons (de_var 0) da_nil)) de_int rfl) (de_and (de_call ((kn_is_single T).mono (by omega)) hr rfl (da_cons (de_sl (de_var 0) do_none (do_some (de_neg de_int))) da_nil) (lenA_cons lenA_nil)) (de_and (de_call ((kn_is_from T).mono (by omega)) hr rfl (da_cons (de_ix (de_var 0) (de_neg de_int) fun _ _ => rfl) (da_cons de_int da_nil)) (lenA_cons (lenA_cons lenA_nil))) (de_one (de_call ((kn_is_from T).mono (by omega)) hr rfl (da_cons (de_ix (de_var 0) (de_neg de_int) fun _ _ => rfl) (da_cons de_int da_nil)) (lenA_cons (lenA_cons lenA_nil))))))))))))
theorem sc_is_shape : FnScope ["thing"] ["thing"] (defScope (topS 17)) := ⟨rfl, rfl, rfl, by decide +kernel, rfl, by decide +kernel, by decide +kernel⟩
theorem kn_is_shape {P : Program} {w : World} {K : PySem.W.Frag} {mg : Str → Option Value} {base : Heap} (T : Top K mg) : Kn P w K mg base 3 "is_shape" ["thing"] g_is_shape := by
  obtain ⟨fd, F⟩ := T.says.def_ 9 (d := dD_is_shape) rfl
  exact kn_of (N := ["thing"]) (m := m_is_shape) F (T.glo 9) sc_is_shape (F.bindsN fun _ _ _ _ _ _ us hl => match us, hl with | [_], _ => rfl) (fun cdv A outer s H E hr => have sc := sc_is_shape; have hu := hu_of hr; have hv := hv_of hr; (dss_cons (ds_if (dt_w (dw_or (dt_not (dt_val (de_call ((kn_is_long T).mono (by omega)) hr rfl (da_cons (de_var 0) (da_cons de_int da_nil)) (lenA_cons (lenA_cons lenA_nil))))) (dw_or (dt_not (dt_val (de_call ((kn_is_from T).mono (by omega)) hr rfl (da_cons (de_ix (de_var 0) de_int fun _ _ => rfl) (da_cons de_int da_nil)) (lenA_cons (lenA_cons lenA_nil))))) (dw_or1 (dt_not (dt_val (de_call ((kn_is_within T).mono (by omega)) hr rfl (da_cons (de_ix (de_var 0) de_int fun _ _ => rfl) (da_cons de_int (da_cons (de_bin op_sub o_sub (de_ix (de_var 0) de_int fun _ _ => rfl) de_int) da_nil))) (lenA_cons (lenA_cons (lenA_cons lenA_nil)))))))))) (dss_one (ds_ret de_bl)) dss_nil) (dss_one (ds_ret (de_call ((kn_is_from T).mono (by omega)) hr rfl (da_cons (de_ix (de_var 0) de_int fun _ _ => rfl) (da_cons de_int da_nil)) (lenA_cons (lenA_cons lenA_nil)))))))
theorem sc_sure_shape : FnScope ["shape", "own"] ["shape"] (defScope (topS 18)) := ⟨rfl, rfl, rfl, by decide +kernel, rfl, by decide +kernel, by decide +kernel⟩
theorem kn_sure_shape {P : Program} {w : World} {K : PySem.W.Frag} {mg : Str → Option Value} {base : Heap} (T : Top K mg) : Kn P w K mg base 14 "sure_shape" ["shape"] g_sure_shape := by
  obtain ⟨fd, F⟩ := T.says.def_ 10 (d := dD_sure_shape) rfl
  exact kn_of (N := ["shape", "own"]) (m := m_sure_shape) F (T.glo 10) sc_sure_shape (F.bindsN fun _ _ _ _ _ _ us hl => match us, hl with | [_], _ => rfl) (fun cdv A outer s H E hr => have sc := sc_sure_shape; have hu := hu_of hr; have hv := hv_of hr; (dss_cons (ds_set (i := 1) sc.nd rfl (Or.inl rfl) (de_call ((kn_tupled T).mono (by omega)) hr rfl (da_cons (de_var 0) da_nil) (lenA_cons lenA_nil))) (dss_cons (ds_if (dt_not (dt_val (de_call ((kn_is_shape T).mono (by omega)) hr rfl (da_cons (de_var 1) da_nil) (lenA_cons lenA_nil)))) (dss_one ds_never) dss_nil) (dss_one (ds_ret (de_var 1))))))
theorem sc_mark_in : FnScope ["shape", "number"] ["shape", "number"] (defScope (topS 19)) := ⟨rfl, rfl, rfl, by decide +kernel, rfl, by decide +kernel, by decide +kernel⟩
theorem kn_mark_in {P : Program} {w : World} {K : PySem.W.Frag} {mg : Str → Option Value} {base : Heap} (T : Top K mg) : Kn P w K mg base 1 "mark_in" ["shape", "number"] g_mark_in := by
  obtain ⟨fd, F⟩ := T.says.def_ 11 (d := dD_mark_in) rfl
  exact kn_of (N := ["shape", "number"]) (m := m_mark_in) F (T.glo 11) sc_mark_in (F.bindsN fun _ _ _ _ _ _ us hl => match us, hl with | [_, _], _ => rfl) (fun cdv A outer s H E hr => have sc := sc_mark_in; have hu := hu_of hr; have hv := hv_of hr; (dss_one (ds_ret (de_bin op_modN o_mod (de_bin op_fdivN o_div (de_var 1) (de_ix (de_var 0) de_int fun _ _ => rfl)) (de_ix (de_var 0) de_int fun _ _ => rfl)))))
theorem sc_place_in : FnScope ["shape", "number"] ["shape", "number"] (defScope (topS 20)) := ⟨rfl, rfl, rfl, by decide +kernel, rfl, by decide +kernel, by decide +kernel⟩
theorem kn_place_in {P : Program} {w : World} {K : PySem.W.Frag} {mg : Str → Option Value} {base : Heap} (T : Top K mg) : Kn P w K mg base 1 "place_in" ["shape", "number"] g_place_in := by
  obtain ⟨fd, F⟩ := T.says.def_ 12 (d := dD_place_in) rfl
  exact kn_of (N := ["shape", "number"]) (m := m_place_in) F (T.glo 12) sc_place_in (F.bindsN fun _ _ _ _ _ _ us hl => match us, hl with | [_, _], _ => rfl) (fun cdv A outer s H E hr => have sc := sc_place_in; have hu := hu_of hr; have hv := hv_of hr; (dss_one (ds_ret (de_bin op_modN o_mod (de_var 1) (de_bin (op_mul.or op_mulT) o_mulA (de_ix (de_var 0) de_int fun _ _ => rfl) (de_ix (de_var 0) de_int fun _ _ => rfl))))))
theorem sc_is_told_cell : FnScope ["thing"] ["thing"] (defScope (topS 25)) := ⟨rfl, rfl, rfl, by decide +kernel, rfl, by decide +kernel, by decide +kernel⟩
theorem kn_is_told_cell {P : Program} {w : World} {K : PySem.W.Frag} {mg : Str → Option Value} {base : Heap} (T : Top K mg) : Kn P w K mg base 5 "is_told_cell" ["thing"] g_is_told_cell := by
  obtain ⟨fd, F⟩ := T.says.def_ 13 (d := dD_is_told_cell) rfl
  exact kn_of (N := ["thing"]) (m := m_is_told_cell) F (T.glo 13) sc_is_told_cell (F.bindsN fun _ _ _ _ _ _ us hl => match us, hl with | [_], _ => rfl) (fun cdv A outer s H E hr => have sc := sc_is_told_cell; have hu := hu_of hr; have hv := hv_of hr; (dss_one (ds_ret (de_or (de_cmp (op_eqD hv) o_eq (de_var 0) (gl_TORN_devices T rfl) rfl) (de_one (de_and (de_call ((kn_is_long T).mono (by omega)) hr rfl (da_cons (de_var 0) (da_cons de_int da_nil)) (lenA_cons (lenA_cons lenA_nil))) (de_and (de_call ((kn_is_from T).mono (by omega)) hr rfl (da_cons (de_ix (de_var 0) de_int fun _ _ => rfl) (da_cons de_int da_nil)) (lenA_cons (lenA_cons lenA_nil))) (de_one (de_call ((kn_is_record T).mono (by omega)) hr rfl (da_cons (de_ix (de_var 0) de_int fun _ _ => rfl) da_nil) (lenA_cons lenA_nil))))))))))
theorem sc_is_cell_in : FnScope ["shape", "thing"] ["shape", "thing"] (defScope (topS 26)) := ⟨rfl, rfl, rfl, by decide +kernel, rfl, by decide +kernel, by decide +kernel⟩
theorem kn_is_cell_in {P : Program} {w : World} {K : PySem.W.Frag} {mg : Str → Option Value} {base : Heap} (T : Top K mg) : Kn P w K mg base 6 "is_cell_in" ["shape", "thing"] g_is_cell_in := by
  obtain ⟨fd, F⟩ := T.says.def_ 14 (d := dD_is_cell_in) rfl
  exact kn_of (N := ["shape", "thing"]) (m := m_is_cell_in) F (T.glo 14) sc_is_cell_in (F.bindsN fun _ _ _ _ _ _ us hl => match us, hl with | [_, _], _ => rfl) (fun cdv A outer s H E hr => have sc := sc_is_cell_in; have hu := hu_of hr; have hv := hv_of hr; (dss_one (ds_ret (de_and (de_call ((kn_is_told_cell T).mono (by omega)) hr rfl (da_cons (de_var 1) da_nil) (lenA_cons lenA_nil)) (de_one (de_or (de_cmp (op_eqD hv) o_eq (de_var 1) (gl_TORN_devices T rfl) rfl) (de_one (de_cmp op_lt o_int (de_ix (de_var 1) de_int fun _ _ => rfl) (de_ix (de_var 0) de_int fun _ _ => rfl) rfl))))))))
theorem sc_is_picture_in : FnScope ["shape", "thing", "own"] ["shape", "thing"] (defScope (topS 27)) := ⟨rfl, rfl, rfl, by decide +kernel, rfl, by decide +kernel, by decide +kernel⟩
theorem kn_is_picture_in {P : Program} {w : World} {K : PySem.W.Frag} {mg : Str → Option Value} {base : Heap} (T : Top K mg) : Kn P w K mg base 7 "is_picture_in" ["shape", "thing"] g_is_picture_in := by
  obtain ⟨fd, F⟩ := T.says.def_ 15 (d := dD_is_picture_in) rfl
  exact kn_of (N := ["shape", "thing", "own"]) (m := m_is_picture_in) F (T.glo 15) sc_is_picture_in (F.bindsN fun _ _ _ _ _ _ us hl => match us, hl with | [_, _], _ => rfl) (fun cdv A outer s H E hr => have sc := sc_is_picture_in; have hu := hu_of hr; have hv := hv_of hr; (dss_one (ds_ret (de_and (de_call ((kn_is_long T).mono (by omega)) hr rfl (da_cons (de_var 1) (da_cons (de_ix (de_var 0) de_int fun _ _ => rfl) da_nil)) (lenA_cons (lenA_cons lenA_nil))) (de_one (de_callB (cr_all rfl) c_all rfl T.fr_all bt_all (da_cons (de_imm (df_lc (own := [("own", 2)]) rfl sc.nd (di_sq (de_var 1)) (blkOk_by (own := [("own", 2)]) (by kernel_rfl)) (fun s H C cl fp => (dn_name (i := 2) sc.nd rfl (Or.inl rfl))) (fun s H C cl fp => dts_nil) (fun s H C cl fp => (de_call ((kn_is_cell_in T).mono (by omega)) hr rfl (da_cons (de_var 0) (da_cons (de_var 2) da_nil)) (lenA_cons (lenA_cons lenA_nil)))) (inN_name (by decide)))) da_nil)))))))
theorem sc_sure_picture : FnScope ["shape", "picture", "own"] ["shape", "picture"] (defScope (topS 28)) := ⟨rfl, rfl, rfl, by decide +kernel, rfl, by decide +kernel, by decide +kernel⟩
theorem kn_sure_picture {P : Program} {w : World} {K : PySem.W.Frag} {mg : Str → Option Value} {base : Heap} (T : Top K mg) : Kn P w K mg base 14 "sure_picture" ["shape", "picture"] g_sure_picture := by
  obtain ⟨fd, F⟩ := T.says.def_ 16 (d := dD_sure_picture) rfl
  exact kn_of (N := ["shape", "picture", "own"]) (m := m_sure_picture) F (T.glo 16) sc_sure_picture (F.bindsN fun _ _ _ _ _ _ us hl => match us, hl with | [_, _], _ => rfl) (fun cdv A outer s H E hr => have sc := sc_sure_picture; have hu := hu_of hr; have hv := hv_of hr; (dss_cons (ds_set (i := 2) sc.nd rfl (Or.inl rfl) (de_call ((kn_tupled T).mono (by omega)) hr rfl (da_cons (de_var 1) da_nil) (lenA_cons lenA_nil))) (dss_cons (ds_if (dt_not (dt_val (de_call ((kn_is_picture_in T).mono (by omega)) hr rfl (da_cons (de_var 0) (da_cons (de_var 2) da_nil)) (lenA_cons (lenA_cons lenA_nil))))) (dss_one ds_never) dss_nil) (dss_one (ds_ret (de_var 2))))))
theorem sc_are_fates : FnScope ["many", "thing", "own"] ["many", "thing"] (defScope (topS 29)) := ⟨rfl, rfl, rfl, by decide +kernel, rfl, by decide +kernel, by decide +kernel⟩
theorem kn_are_fates {P : Program} {w : World} {K : PySem.W.Frag} {mg : Str → Option Value} {base : Heap} (T : Top K mg) : Kn P w K mg base 2 "are_fates" ["many", "thing"] g_are_fates := by
  obtain ⟨fd, F⟩ := T.says.def_ 17 (d := dD_are_fates) rfl
  exact kn_of (N := ["many", "thing", "own"]) (m := m_are_fates) F (T.glo 17) sc_are_fates (F.bindsN fun _ _ _ _ _ _ us hl => match us, hl with | [_, _], _ => rfl) (fun cdv A outer s H E hr => have sc := sc_are_fates; have hu := hu_of hr; have hv := hv_of hr; (dss_cons (ds_if (dt_not (dt_val (de_call ((kn_is_long T).mono (by omega)) hr rfl (da_cons (de_var 1) (da_cons (de_var 0) da_nil)) (lenA_cons (lenA_cons lenA_nil))))) (dss_one (ds_ret de_bl)) dss_nil) (dss_one (ds_ret (de_callB (cr_all rfl) c_all rfl T.fr_all bt_all (da_cons (de_imm (df_lc (own := [("own", 2)]) rfl sc.nd (di_sq (de_var 1)) (blkOk_by (own := [("own", 2)]) (by kernel_rfl)) (fun s H C cl fp => (dn_name (i := 2) sc.nd rfl (Or.inl rfl))) (fun s H C cl fp => dts_nil) (fun s H C cl fp => (de_and (de_callB call_isiA c_isi rfl T.fr_isinstance bt_isinstance (da_cons (de_var 2) (da_cons (de_ty (n := .str) rfl T.fr_str bt_str) da_nil))) (de_one (de_cmp (op_inB hu) (o_in false) (de_var 2) (de_tup (da_cons (gl_OLD T rfl) (da_cons (gl_NEW_devices T rfl) (da_cons (de_ix (gl_TORN_devices T rfl) de_int fun _ _ => rfl) da_nil)))) rfl)))) (inN_name (by decide)))) da_nil))))))
theorem sc_fallen : FnScope ["picture", "writes", "fates", "found", "cell", "content", "fate"] ["picture", "writes", "fates"] (defScope (topS 30)) := ⟨rfl, rfl, rfl, by decide +kernel, rfl, by decide +kernel, by decide +kernel⟩
theorem kn_fallen {P : Program} {w : World} {K : PySem.W.Frag} {mg : Str → Option Value} {base : Heap} (T : Top K mg) : Kn P w K mg base 1 "fallen" ["picture", "writes", "fates"] g_fallen := by
  obtain ⟨fd, F⟩ := T.says.def_ 18 (d := dD_fallen) rfl
  exact Kn.trimG (kn_of (N := ["picture", "writes", "fates", "found", "cell", "content", "fate"]) (m := m_fallen) F (T.glo 18) sc_fallen (F.bindsN fun _ _ _ _ _ _ us hl => match us, hl with | [_, _, _], _ => rfl) (fun cdv A outer s H E hr => have sc := sc_fallen; have hu := hu_of hr; have hv := hv_of hr; (dss_cons (ds_set (i := 3) sc.nd rfl (Or.inl rfl) (de_mut (df_callTy call_list_of c_list rfl T.fr_list bt_list (da_cons (de_var 0) da_nil)))) (dss_cons (ds_for PassesOwn.never rfl (di_zip rfl T.fr_zip (de_var 1) (de_var 2)) (dn_tup rfl (dns_cons (dn_tup rfl (dns_cons (dn_name (i := 4) sc.nd rfl (Or.inl rfl)) (dns_cons (dn_name (i := 5) sc.nd rfl (Or.inl rfl)) dns_nil)) (lenN_cons (lenN_cons lenN_nil))) (dns_cons (dn_name (i := 6) sc.nd rfl (Or.inl rfl)) dns_nil)) (lenN_cons (lenN_cons lenN_nil))) (dss_one (ds_if (dt_cmp (op_neD hv) o_ne (de_var 6) (gl_OLD T rfl) rfl) (dss_one (ds_asgG (de_if (dt_cmp (op_eqD hv) o_eq (de_var 6) (gl_NEW_devices T rfl) rfl) (de_var 5) (gl_TORN_devices T rfl)) (dg_sub (de_var 3) (de_var 4)))) dss_nil))) (dss_one (ds_ret (de_callTy call_tuple_of c_tuple rfl T.fr_tuple bt_tuple (da_cons (de_var 3) da_nil))))))))
theorem sc_view_in : FnScope ["device"] ["device"] (defScope (topS 31)) := ⟨rfl, rfl, rfl, by decide +kernel, rfl, by decide +kernel, by decide +kernel⟩
theorem kn_view_in {P : Program} {w : World} {K : PySem.W.Frag} {mg : Str → Option Value} {base : Heap} (T : Top K mg) : Kn P w K mg base 2 "view_in" ["device"] g_view_in := by
  obtain ⟨fd, F⟩ := T.says.def_ 19 (d := dD_view_in) rfl
  exact kn_of (N := ["device"]) (m := m_view_in) F (T.glo 19) sc_view_in (F.bindsN fun _ _ _ _ _ _ us hl => match us, hl with | [_], _ => rfl) (fun cdv A outer s H E hr => have sc := sc_view_in; have hu := hu_of hr; have hv := hv_of hr; (dss_one (ds_ret (de_call ((kn_fallen T).mono (by omega)) hr rfl (da_cons (de_ix (de_var 0) de_int fun _ _ => rfl) (da_cons (de_ix (de_var 0) de_int fun _ _ => rfl) (da_cons (de_imm (df_rep (de_imm (df_lst (da_cons (gl_NEW_devices T rfl) da_nil))) (de_callB call_lenA c_len rfl T.fr_len bt_len (da_cons (de_ix (de_var 0) de_int fun _ _ => rfl) da_nil)))) da_nil))) (lenA_cons (lenA_cons (lenA_cons lenA_nil)))))))
theorem sc_sure_both : FnScope ["shape", "picture", "own"] ["shape", "picture"] (defScope (topS 33)) := ⟨rfl, rfl, rfl, by decide +kernel, rfl, by decide +kernel, by decide +kernel⟩
theorem kn_sure_both {P : Program} {w : World} {K : PySem.W.Frag} {mg : Str → Option Value} {base : Heap} (T : Top K mg) : Kn P w K mg base 15 "sure_both" ["shape", "picture"] g_sure_both := by
  obtain ⟨fd, F⟩ := T.says.def_ 20 (d := dD_sure_both) rfl
  exact kn_of (N := ["shape", "picture", "own"]) (m := m_sure_both) F (T.glo 20) sc_sure_both (F.bindsN fun _ _ _ _ _ _ us hl => match us, hl with | [_, _], _ => rfl) (fun cdv A outer s H E hr => have sc := sc_sure_both; have hu := hu_of hr; have hv := hv_of hr; (dss_cons (ds_set (i := 2) sc.nd rfl (Or.inl rfl) (de_call ((kn_sure_shape T).mono (by omega)) hr rfl (da_cons (de_var 0) da_nil) (lenA_cons lenA_nil))) (dss_one (ds_ret (de_tup (da_cons (de_var 2) (da_cons (de_call ((kn_sure_picture T).mono (by omega)) hr rfl (da_cons (de_var 2) (da_cons (de_var 1) da_nil)) (lenA_cons (lenA_cons lenA_nil))) da_nil)))))))
theorem sc_sure_place : FnScope ["shape", "place"] ["shape", "place"] (defScope (topS 34)) := ⟨rfl, rfl, rfl, by decide +kernel, rfl, by decide +kernel, by decide +kernel⟩
theorem kn_sure_place {P : Program} {w : World} {K : PySem.W.Frag} {mg : Str → Option Value} {base : Heap} (T : Top K mg) : Kn P w K mg base 3 "sure_place" ["shape", "place"] g_sure_place := by
  obtain ⟨fd, F⟩ := T.says.def_ 21 (d := dD_sure_place) rfl
  exact kn_of (N := ["shape", "place"]) (m := m_sure_place) F (T.glo 21) sc_sure_place (F.bindsN fun _ _ _ _ _ _ us hl => match us, hl with | [_, _], _ => rfl) (fun cdv A outer s H E hr => have sc := sc_sure_place; have hu := hu_of hr; have hv := hv_of hr; (dss_cons (ds_if (dt_not (dt_val (de_call ((kn_is_within T).mono (by omega)) hr rfl (da_cons (de_var 1) (da_cons de_int (da_cons (de_bin op_sub o_sub (de_bin (op_mul.or op_mulT) o_mulA (de_ix (de_var 0) de_int fun _ _ => rfl) (de_ix (de_var 0) de_int fun _ _ => rfl)) de_int) da_nil))) (lenA_cons (lenA_cons (lenA_cons lenA_nil)))))) (dss_one ds_never) dss_nil) (dss_one (ds_ret (de_var 1)))))
theorem sc_shows_in : FnScope ["shape", "picture", "number", "cell"] ["shape", "picture", "number"] (defScope (topS 35)) := ⟨rfl, rfl, rfl, by decide +kernel, rfl, by decide +kernel, by decide +kernel⟩
theorem kn_shows_in {P : Program} {w : World} {K : PySem.W.Frag} {mg : Str → Option Value} {base : Heap} (T : Top K mg) : Kn P w K mg base 2 "shows_in" ["shape", "picture", "number"] g_shows_in := by
  obtain ⟨fd, F⟩ := T.says.def_ 22 (d := dD_shows_in) rfl
  exact kn_of (N := ["shape", "picture", "number", "cell"]) (m := m_shows_in) F (T.glo 22) sc_shows_in (F.bindsN fun _ _ _ _ _ _ us hl => match us, hl with | [_, _, _], _ => rfl) (fun cdv A outer s H E hr => have sc := sc_shows_in; have hu := hu_of hr; have hv := hv_of hr; (dss_cons (ds_set (i := 3) sc.nd rfl (Or.inl rfl) (de_ix (de_var 1) (de_bin op_modN o_mod (de_var 2) (de_ix (de_var 0) de_int fun _ _ => rfl)) fun _ _ => rfl)) (dss_one (ds_ret (de_and (de_cmp (op_neD hv) o_ne (de_var 3) (gl_TORN_devices T rfl) rfl) (de_one (de_cmp (op_eqD hv) o_eq (de_ix (de_var 3) de_int fun _ _ => rfl) (de_call ((kn_mark_in T).mono (by omega)) hr rfl (da_cons (de_var 0) (da_cons (de_var 2) da_nil)) (lenA_cons (lenA_cons lenA_nil))) rfl)))))))
theorem sc_run_in : FnScope ["shape", "picture", "place", "found"] ["shape", "picture", "place"] (defScope (topS 36)) := ⟨rfl, rfl, rfl, by decide +kernel, rfl, by decide +kernel, by decide +kernel⟩
theorem kn_run_in {P : Program} {w : World} {K : PySem.W.Frag} {mg : Str → Option Value} {base : Heap} (T : Top K mg) : Kn P w K mg base 3 "run_in" ["shape", "picture", "place"] g_run_in := by
  obtain ⟨fd, F⟩ := T.says.def_ 23 (d := dD_run_in) rfl
  exact kn_of (N := ["shape", "picture", "place", "found"]) (m := m_run_in) F (T.glo 23) sc_run_in (F.bindsN fun _ _ _ _ _ _ us hl => match us, hl with | [_, _, _], _ => rfl) (fun cdv A outer s H E hr => have sc := sc_run_in; have hu := hu_of hr; have hv := hv_of hr; (dss_cons (ds_set (i := 3) sc.nd rfl (Or.inl rfl) de_int) (dss_cons (ds_while 20 PassesOwn.never (dt_w (dw_and (dt_cmp op_lt o_int (de_var 3) (de_ix (de_var 0) de_int fun _ _ => rfl) rfl) (dw_and1 (dt_val (de_call ((kn_shows_in T).mono (by omega)) hr rfl (da_cons (de_var 0) (da_cons (de_var 1) (da_cons (de_bin op_sub o_sub (de_bin op_sub o_sub (de_var 2) (de_var 3)) de_int) da_nil))) (lenA_cons (lenA_cons (lenA_cons lenA_nil)))))))) (dss_one (ds_set (i := 3) sc.nd rfl (Or.inl rfl) (de_bin (op_add.or op_catA) o_add (de_var 3) de_int)))) (dss_one (ds_ret (de_var 3))))))
theorem sc_places_in : FnScope ["shape", "picture", "found", "run", "place"] ["shape", "picture"] (defScope (topS 37)) := ⟨rfl, rfl, rfl, by decide +kernel, rfl, by decide +kernel, by decide +kernel⟩
theorem kn_places_in {P : Program} {w : World} {K : PySem.W.Frag} {mg : Str → Option Value} {base : Heap} (T : Top K mg) : Kn P w K mg base 4 "places_in" ["shape", "picture"] g_places_in := by
  obtain ⟨fd, F⟩ := T.says.def_ 24 (d := dD_places_in) rfl
  exact Kn.trimG (kn_of (N := ["shape", "picture", "found", "run", "place"]) (m := m_places_in) F (T.glo 24) sc_places_in (F.bindsN fun _ _ _ _ _ _ us hl => match us, hl with | [_, _], _ => rfl) (fun cdv A outer s H E hr => have sc := sc_places_in; have hu := hu_of hr; have hv := hv_of hr; (dss_cons (ds_par (i := 2) (j := 3) rfl sc.nd rfl rfl (by decide) rfl rfl (da_cons (de_mut (df_lst da_nil)) (da_cons (de_call ((kn_run_in T).mono (by omega)) hr rfl (da_cons (de_var 0) (da_cons (de_var 1) (da_cons de_int da_nil))) (lenA_cons (lenA_cons (lenA_cons lenA_nil)))) da_nil)) rfl) (dss_cons (ds_for PassesOwn.never rfl (di_range1 rfl T.fr_range (de_bin (op_mul.or op_mulT) o_mulA (de_ix (de_var 0) de_int fun _ _ => rfl) (de_ix (de_var 0) de_int fun _ _ => rfl))) (dn_name (i := 4) sc.nd rfl (Or.inl rfl)) (dss_cons (ds_if (dt_cmp op_ge o_int (de_var 3) (de_bin op_sub o_sub (de_ix (de_var 0) de_int fun _ _ => rfl) (de_ix (de_var 0) de_int fun _ _ => rfl)) rfl) (dss_one (ds_expr (de_append (de_var 2) (de_var 4)))) dss_nil) (dss_one (ds_set (i := 3) sc.nd rfl (Or.inl rfl) (de_if (dt_val (de_call ((kn_shows_in T).mono (by omega)) hr rfl (da_cons (de_var 0) (da_cons (de_var 1) (da_cons (de_var 4) da_nil))) (lenA_cons (lenA_cons (lenA_cons lenA_nil))))) (de_bin (op_add.or op_catA) o_add (de_var 3) de_int) de_int))))) (dss_one (ds_ret (de_var 2)))))))
theorem sc_gaps_in : FnScope ["shape", "picture", "places", "later", "place", "far"] ["shape", "picture"] (defScope (topS 38)) := ⟨rfl, rfl, rfl, by decide +kernel, rfl, by decide +kernel, by decide +kernel⟩
theorem kn_gaps_in {P : Program} {w : World} {K : PySem.W.Frag} {mg : Str → Option Value} {base : Heap} (T : Top K mg) : Kn P w K mg base 5 "gaps_in" ["shape", "picture"] g_gaps_in := by
  obtain ⟨fd, F⟩ := T.says.def_ 25 (d := dD_gaps_in) rfl
  exact kn_of (N := ["shape", "picture", "places", "later", "place", "far"]) (m := m_gaps_in) F (T.glo 25) sc_gaps_in (F.bindsN fun _ _ _ _ _ _ us hl => match us, hl with | [_, _], _ => rfl) (fun cdv A outer s H E hr => have sc := sc_gaps_in; have hu := hu_of hr; have hv := hv_of hr; (dss_cons (ds_set (i := 2) sc.nd rfl (Or.inl rfl) (de_call ((kn_places_in T).mono (by omega)) hr rfl (da_cons (de_var 0) (da_cons (de_var 1) da_nil)) (lenA_cons (lenA_cons lenA_nil)))) (dss_cons (ds_set (i := 3) sc.nd rfl (Or.inl rfl) (de_imm (df_cat (de_sl (de_var 2) (do_some de_int) do_none) (de_imm (df_lc (own := [("place", 4)]) rfl sc.nd (di_sq (de_sl (de_var 2) do_none (do_some de_int))) (blkOk_by (own := [("place", 4)]) (by kernel_rfl)) (fun s H C cl fp => (dn_name (i := 4) sc.nd rfl (Or.inl rfl))) (fun s H C cl fp => dts_nil) (fun s H C cl fp => (de_bin (op_add.or op_catA) o_add (de_var 4) (de_bin (op_mul.or op_mulT) o_mulA (de_ix (de_var 0) de_int fun _ _ => rfl) (de_ix (de_var 0) de_int fun _ _ => rfl)))) (inN_name (by decide))))))) (dss_one (ds_ret (de_imm (df_lc (own := [("place", 4), ("far", 5)]) rfl sc.nd (di_zip rfl T.fr_zip (de_var 2) (de_var 3)) (blkOk_by (own := [("place", 4), ("far", 5)]) (by kernel_rfl)) (fun s H C cl fp => (dn_tup rfl (dns_cons (dn_name (i := 4) sc.nd rfl (Or.inl rfl)) (dns_cons (dn_name (i := 5) sc.nd rfl (Or.inl rfl)) dns_nil)) (lenN_cons (lenN_cons lenN_nil)))) (fun s H C cl fp => dts_nil) (fun s H C cl fp => (de_tup (da_cons (de_var 4) (da_cons (de_bin op_sub o_sub (de_var 5) (de_var 4)) da_nil)))) (inN_tup (inN_cons (inN_name (by decide)) (inN_cons (inN_name (by decide)) inN_nil))))))))))
theorem sc_far_in : FnScope ["shape", "picture", "place", "steps"] ["shape", "picture"] (defScope (topS 39)) := ⟨rfl, rfl, rfl, by decide +kernel, rfl, by decide +kernel, by decide +kernel⟩
theorem kn_far_in {P : Program} {w : World} {K : PySem.W.Frag} {mg : Str → Option Value} {base : Heap} (T : Top K mg) : Kn P w K mg base 6 "far_in" ["shape", "picture"] g_far_in := by
  obtain ⟨fd, F⟩ := T.says.def_ 26 (d := dD_far_in) rfl
  exact kn_of (N := ["shape", "picture", "place", "steps"]) (m := m_far_in) F (T.glo 26) sc_far_in (F.bindsN fun _ _ _ _ _ _ us hl => match us, hl with | [_, _], _ => rfl) (fun cdv A outer s H E hr => have sc := sc_far_in; have hu := hu_of hr; have hv := hv_of hr; (dss_one (ds_ret (de_imm (df_lc (own := [("place", 2), ("steps", 3)]) rfl sc.nd (di_sq (de_call ((kn_gaps_in T).mono (by omega)) hr rfl (da_cons (de_var 0) (da_cons (de_var 1) da_nil)) (lenA_cons (lenA_cons lenA_nil)))) (blkOk_by (own := [("place", 2), ("steps", 3)]) (by kernel_rfl)) (fun s H C cl fp => (dn_tup rfl (dns_cons (dn_name (i := 2) sc.nd rfl (Or.inl rfl)) (dns_cons (dn_name (i := 3) sc.nd rfl (Or.inl rfl)) dns_nil)) (lenN_cons (lenN_cons lenN_nil)))) (fun s H C cl fp => (dts_one (dt_cmp op_gt o_int (de_var 3) (de_ix (de_var 0) de_int fun _ _ => rfl) rfl))) (fun s H C cl fp => (de_var 2)) (inN_tup (inN_cons (inN_name (by decide)) (inN_cons (inN_name (by decide)) inN_nil))))))))
theorem sc_answer_in : FnScope ["shape", "picture", "found"] ["shape", "picture"] (defScope (topS 40)) := ⟨rfl, rfl, rfl, by decide +kernel, rfl, by decide +kernel, by decide +kernel⟩
theorem kn_answer_in {P : Program} {w : World} {K : PySem.W.Frag} {mg : Str → Option Value} {base : Heap} (T : Top K mg) : Kn P w K mg base 7 "answer_in" ["shape", "picture"] g_answer_in := by
  obtain ⟨fd, F⟩ := T.says.def_ 27 (d := dD_answer_in) rfl
  exact kn_of (N := ["shape", "picture", "found"]) (m := m_answer_in) F (T.glo 27) sc_answer_in (F.bindsN fun _ _ _ _ _ _ us hl => match us, hl with | [_, _], _ => rfl) (fun cdv A outer s H E hr => have sc := sc_answer_in; have hu := hu_of hr; have hv := hv_of hr; (dss_cons (ds_set (i := 2) sc.nd rfl (Or.inl rfl) (de_call ((kn_far_in T).mono (by omega)) hr rfl (da_cons (de_var 0) (da_cons (de_var 1) da_nil)) (lenA_cons (lenA_cons lenA_nil)))) (dss_one (ds_ret (de_if (dt_cmp (op_eqD hv) o_eq (de_callB call_lenA c_len rfl T.fr_len bt_len (da_cons (de_var 2) da_nil)) de_int rfl) (de_ix (de_var 2) de_int fun _ _ => rfl) de_non)))))
theorem sc_synced_in : FnScope ["log", "device", "place"] ["log"] (defScope (topS 45)) := ⟨rfl, rfl, rfl, by decide +kernel, rfl, by decide +kernel, by decide +kernel⟩
theorem kn_synced_in {P : Program} {w : World} {K : PySem.W.Frag} {mg : Str → Option Value} {base : Heap} (T : Top K mg) : Kn P w K mg base 3 "synced_in" ["log"] g_synced_in := by
  obtain ⟨fd, F⟩ := T.says.def_ 28 (d := dD_synced_in) rfl
  exact kn_of (N := ["log", "device", "place"]) (m := m_synced_in) F (T.glo 28) sc_synced_in (F.bindsN fun _ _ _ _ _ _ us hl => match us, hl with | [_], _ => rfl) (fun cdv A outer s H E hr => have sc := sc_synced_in; have hu := hu_of hr; have hv := hv_of hr; (dss_cons (ds_asgN (de_var 0) (dn_tup rfl (dns_cons (dn_name (i := 1) sc.nd rfl (Or.inl rfl)) (dns_cons (dn_name (i := 2) sc.nd rfl (Or.inl rfl)) dns_nil)) (lenN_cons (lenN_cons lenN_nil)))) (dss_one (ds_ret (de_tup (da_cons (de_tup (da_cons (de_ix (de_var 1) de_int fun _ _ => rfl) (da_cons (de_call ((kn_view_in T).mono (by omega)) hr rfl (da_cons (de_var 1) da_nil) (lenA_cons lenA_nil)) (da_cons (de_tup da_nil) da_nil)))) (da_cons (de_var 2) da_nil)))))))
theorem sc_logged_in : FnScope ["log", "record", "shape", "picture", "flight", "place", "content"] ["log", "record"] (defScope (topS 46)) := ⟨rfl, rfl, rfl, by decide +kernel, rfl, by decide +kernel, by decide +kernel⟩
theorem kn_logged_in {P : Program} {w : World} {K : PySem.W.Frag} {mg : Str → Option Value} {base : Heap} (T : Top K mg) : Kn P w K mg base 4 "logged_in" ["log", "record"] g_logged_in := by
  obtain ⟨fd, F⟩ := T.says.def_ 29 (d := dD_logged_in) rfl
  exact kn_of (N := ["log", "record", "shape", "picture", "flight", "place", "content"]) (m := m_logged_in) F (T.glo 29) sc_logged_in (F.bindsN fun _ _ _ _ _ _ us hl => match us, hl with | [_, _], _ => rfl) (fun cdv A outer s H E hr => have sc := sc_logged_in; have hu := hu_of hr; have hv := hv_of hr; (dss_cons (ds_asgN (de_if (dt_cmp (op_eqD hv) o_eq (de_callB call_lenA c_len rfl T.fr_len bt_len (da_cons (de_ix (de_ix (de_var 0) de_int fun _ _ => rfl) de_int fun _ _ => rfl) da_nil)) (de_ix (de_ix (de_ix (de_var 0) de_int fun _ _ => rfl) de_int fun _ _ => rfl) de_int fun _ _ => rfl) rfl) (de_call ((kn_synced_in T).mono (by omega)) hr rfl (da_cons (de_var 0) da_nil) (lenA_cons lenA_nil)) (de_var 0)) (dn_tup rfl (dns_cons (dn_tup rfl (dns_cons (dn_name (i := 2) sc.nd rfl (Or.inl rfl)) (dns_cons (dn_name (i := 3) sc.nd rfl (Or.inl rfl)) (dns_cons (dn_name (i := 4) sc.nd rfl (Or.inl rfl)) dns_nil))) (lenN_cons (lenN_cons (lenN_cons lenN_nil)))) (dns_cons (dn_name (i := 5) sc.nd rfl (Or.inl rfl)) dns_nil)) (lenN_cons (lenN_cons lenN_nil)))) (dss_cons (ds_set (i := 6) sc.nd rfl (Or.inl rfl) (de_tup (da_cons (de_call ((kn_mark_in T).mono (by omega)) hr rfl (da_cons (de_var 2) (da_cons (de_var 5) da_nil)) (lenA_cons (lenA_cons lenA_nil))) (da_cons (de_var 1) da_nil)))) (dss_one (ds_ret (de_tup (da_cons (de_tup (da_cons (de_var 2) (da_cons (de_var 3) (da_cons (de_tup (da_star (de_var 4) (da_cons (de_tup (da_cons (de_bin op_modN o_mod (de_var 5) (de_ix (de_var 2) de_int fun _ _ => rfl)) (da_cons (de_var 6) da_nil))) da_nil))) da_nil)))) (da_cons (de_call ((kn_place_in T).mono (by omega)) hr rfl (da_cons (de_var 2) (da_cons (de_bin (op_add.or op_catA) o_add (de_var 5) de_int) da_nil)) (lenA_cons (lenA_cons lenA_nil))) da_nil))))))))
theorem sc_stood_in : FnScope ["log"] ["log"] (defScope (topS 47)) := ⟨rfl, rfl, rfl, by decide +kernel, rfl, by decide +kernel, by decide +kernel⟩
theorem kn_stood_in {P : Program} {w : World} {K : PySem.W.Frag} {mg : Str → Option Value} {base : Heap} (T : Top K mg) : Kn P w K mg base 2 "stood_in" ["log"] g_stood_in := by
  obtain ⟨fd, F⟩ := T.says.def_ 30 (d := dD_stood_in) rfl
  exact kn_of (N := ["log"]) (m := m_stood_in) F (T.glo 30) sc_stood_in (F.bindsN fun _ _ _ _ _ _ us hl => match us, hl with | [_], _ => rfl) (fun cdv A outer s H E hr => have sc := sc_stood_in; have hu := hu_of hr; have hv := hv_of hr; (dss_one (ds_ret (de_call ((kn_place_in T).mono (by omega)) hr rfl (da_cons (de_ix (de_ix (de_var 0) de_int fun _ _ => rfl) de_int fun _ _ => rfl) (da_cons (de_bin op_sub o_sub (de_ix (de_var 0) de_int fun _ _ => rfl) (de_callB call_lenA c_len rfl T.fr_len bt_len (da_cons (de_ix (de_ix (de_var 0) de_int fun _ _ => rfl) de_int fun _ _ => rfl) da_nil))) da_nil)) (lenA_cons (lenA_cons lenA_nil))))))
theorem sc_writes_at : FnScope ["shape", "picture", "place", "found", "number", "cell"] ["shape", "picture", "place"] (defScope (topS 48)) := ⟨rfl, rfl, rfl, by decide +kernel, rfl, by decide +kernel, by decide +kernel⟩
theorem kn_writes_at {P : Program} {w : World} {K : PySem.W.Frag} {mg : Str → Option Value} {base : Heap} (T : Top K mg) : Kn P w K mg base 3 "writes_at" ["shape", "picture", "place"] g_writes_at := by
  obtain ⟨fd, F⟩ := T.says.def_ 31 (d := dD_writes_at) rfl
  exact Kn.trimG (kn_of (N := ["shape", "picture", "place", "found", "number", "cell"]) (m := m_writes_at) F (T.glo 31) sc_writes_at (F.bindsN fun _ _ _ _ _ _ us hl => match us, hl with | [_, _, _], _ => rfl) (fun cdv A outer s H E hr => have sc := sc_writes_at; have hu := hu_of hr; have hv := hv_of hr; (dss_cons (ds_set (i := 3) sc.nd rfl (Or.inl rfl) (de_mut (df_lst da_nil))) (dss_cons (ds_for PassesOwn.never rfl (di_range2 rfl T.fr_range (de_var 2) (de_bin (op_add.or op_catA) o_add (de_var 2) (de_ix (de_var 0) de_int fun _ _ => rfl))) (dn_name (i := 4) sc.nd rfl (Or.inl rfl)) (dss_cons (ds_set (i := 5) sc.nd rfl (Or.inl rfl) (de_bin op_modN o_mod (de_var 4) (de_ix (de_var 0) de_int fun _ _ => rfl))) (dss_one (ds_if (dt_w (dw_and (dt_cmp (op_neD hv) o_ne (de_ix (de_var 1) (de_var 5) fun _ _ => rfl) (gl_TORN_log T rfl) rfl) (dw_and1 (dt_not (dt_val (de_call ((kn_shows_in T).mono (by omega)) hr rfl (da_cons (de_var 0) (da_cons (de_var 1) (da_cons (de_bin op_sub o_sub (de_var 4) (de_ix (de_var 0) de_int fun _ _ => rfl)) da_nil))) (lenA_cons (lenA_cons (lenA_cons lenA_nil))))))))) (dss_one (ds_expr (de_append (de_var 3) (de_tup (da_cons (de_var 5) (da_cons (de_tup (da_cons (de_call ((kn_mark_in T).mono (by omega)) hr rfl (da_cons (de_var 0) (da_cons (de_bin op_sub o_sub (de_var 4) (de_ix (de_var 0) de_int fun _ _ => rfl)) da_nil)) (lenA_cons (lenA_cons lenA_nil))) (da_cons (gl_BLANK_log T rfl) da_nil))) da_nil)))))) dss_nil)))) (dss_one (ds_ret (de_callTy call_tuple_of c_tuple rfl T.fr_tuple bt_tuple (da_cons (de_var 3) da_nil))))))))
theorem sc_begun_life : FnScope ["shape"] ["shape"] (defScope (topS 49)) := ⟨rfl, rfl, rfl, by decide +kernel, rfl, by decide +kernel, by decide +kernel⟩
theorem kn_begun_life {P : Program} {w : World} {K : PySem.W.Frag} {mg : Str → Option Value} {base : Heap} (T : Top K mg) : Kn P w K mg base 1 "begun_life" ["shape"] g_begun_life := by
  obtain ⟨fd, F⟩ := T.says.def_ 32 (d := dD_begun_life) rfl
  exact kn_of (N := ["shape"]) (m := m_begun_life) F (T.glo 32) sc_begun_life (F.bindsN fun _ _ _ _ _ _ us hl => match us, hl with | [_], _ => rfl) (fun cdv A outer s H E hr => have sc := sc_begun_life; have hu := hu_of hr; have hv := hv_of hr; (dss_one (ds_ret (de_tup (da_cons (de_bin (op_mul.or op_mulT) o_mulA (de_tup (da_cons (de_tup (da_cons (de_bin op_sub o_sub (de_ix (de_var 0) de_int fun _ _ => rfl) de_int) (da_cons (gl_BLANK_log T rfl) da_nil))) da_nil)) (de_ix (de_var 0) de_int fun _ _ => rfl)) (da_cons (de_tup da_nil) (da_cons de_int (da_cons de_non da_nil))))))))
theorem sc_behind_awake : FnScope ["shape", "stand", "event", "picture", "flight", "place", "_", "log", "cells", "writes", "later"] ["shape", "stand", "event"] (defScope (topS 50)) := ⟨rfl, rfl, rfl, by decide +kernel, rfl, by decide +kernel, by decide +kernel⟩
theorem kn_behind_awake {P : Program} {w : World} {K : PySem.W.Frag} {mg : Str → Option Value} {base : Heap} (T : Top K mg) : Kn P w K mg base 5 "behind_awake" ["shape", "stand", "event"] g_behind_awake := by
  obtain ⟨fd, F⟩ := T.says.def_ 33 (d := dD_behind_awake) rfl
  exact kn_of (N := ["shape", "stand", "event", "picture", "flight", "place", "_", "log", "cells", "writes", "later"]) (m := m_behind_awake) F (T.glo 33) sc_behind_awake (F.bindsN fun _ _ _ _ _ _ us hl => match us, hl with | [_, _, _], _ => rfl) (fun cdv A outer s H E hr => have sc := sc_behind_awake; have hu := hu_of hr; have hv := hv_of hr; (dss_cons (ds_asgN (de_var 1) (dn_tup rfl (dns_cons (dn_name (i := 3) sc.nd rfl (Or.inl rfl)) (dns_cons (dn_name (i := 4) sc.nd rfl (Or.inl rfl)) (dns_cons (dn_name (i := 5) sc.nd rfl (Or.inl rfl)) (dns_cons (dn_name (i := 6) sc.nd rfl (Or.inl rfl)) dns_nil)))) (lenN_cons (lenN_cons (lenN_cons (lenN_cons lenN_nil)))))) (dss_cons (ds_set (i := 7) sc.nd rfl (Or.inl rfl) (de_tup (da_cons (de_tup (da_cons (de_var 0) (da_cons (de_var 3) (da_cons (de_var 4) da_nil)))) (da_cons (de_var 5) da_nil)))) (dss_cons (ds_if (dt_w (dw_and (dt_val (de_call ((kn_is_long T).mono (by omega)) hr rfl (da_cons (de_var 2) (da_cons de_int da_nil)) (lenA_cons (lenA_cons lenA_nil)))) (dw_and (dt_cmp (op_eqD hv) o_eq (de_ix (de_var 2) de_int fun _ _ => rfl) de_str rfl) (dw_and1 (dt_val (de_call ((kn_is_record T).mono (by omega)) hr rfl (da_cons (de_ix (de_var 2) de_int fun _ _ => rfl) da_nil) (lenA_cons lenA_nil))))))) (dss_cons (ds_asgN (de_call ((kn_logged_in T).mono (by omega)) hr rfl (da_cons (de_var 7) (da_cons (de_ix (de_var 2) de_int fun _ _ => rfl) da_nil)) (lenA_cons (lenA_cons lenA_nil))) (dn_tup rfl (dns_cons (dn_tup rfl (dns_cons (dn_name (i := 6) sc.nd rfl (Or.inl rfl)) (dns_cons (dn_name (i := 8) sc.nd rfl (Or.inl rfl)) (dns_cons (dn_name (i := 9) sc.nd rfl (Or.inl rfl)) dns_nil))) (lenN_cons (lenN_cons (lenN_cons lenN_nil)))) (dns_cons (dn_name (i := 10) sc.nd rfl (Or.inl rfl)) dns_nil)) (lenN_cons (lenN_cons lenN_nil)))) (dss_one (ds_ret (de_tup (da_cons (de_var 8) (da_cons (de_var 9) (da_cons (de_var 10) (da_cons de_non da_nil)))))))) dss_nil) (dss_cons (ds_if (dt_w (dw_and (dt_val (de_call ((kn_is_long T).mono (by omega)) hr rfl (da_cons (de_var 2) (da_cons de_int da_nil)) (lenA_cons (lenA_cons lenA_nil)))) (dw_and1 (dt_cmp (op_eqD hv) o_eq (de_ix (de_var 2) de_int fun _ _ => rfl) de_str rfl)))) (dss_one (ds_ret (de_tup (da_cons (de_call ((kn_view_in T).mono (by omega)) hr rfl (da_cons (de_ix (de_var 7) de_int fun _ _ => rfl) da_nil) (lenA_cons lenA_nil)) (da_cons (de_tup da_nil) (da_cons (de_var 5) (da_cons de_non da_nil))))))) dss_nil) (dss_cons (ds_if (dt_w (dw_and (dt_val (de_call ((kn_is_long T).mono (by omega)) hr rfl (da_cons (de_var 2) (da_cons de_int da_nil)) (lenA_cons (lenA_cons lenA_nil)))) (dw_and (dt_cmp (op_eqD hv) o_eq (de_ix (de_var 2) de_int fun _ _ => rfl) de_str rfl) (dw_and1 (dt_val (de_call ((kn_are_fates T).mono (by omega)) hr rfl (da_cons (de_callB call_lenA c_len rfl T.fr_len bt_len (da_cons (de_var 4) da_nil)) (da_cons (de_ix (de_var 2) de_int fun _ _ => rfl) da_nil)) (lenA_cons (lenA_cons lenA_nil)))))))) (dss_one (ds_ret (de_tup (da_cons (de_call ((kn_fallen T).mono (by omega)) hr rfl (da_cons (de_var 3) (da_cons (de_var 4) (da_cons (de_ix (de_var 2) de_int fun _ _ => rfl) da_nil))) (lenA_cons (lenA_cons (lenA_cons lenA_nil)))) (da_cons (de_tup da_nil) (da_cons de_non (da_cons (de_tup (da_cons (de_call ((kn_stood_in T).mono (by omega)) hr rfl (da_cons (de_var 7) da_nil) (lenA_cons lenA_nil)) (da_cons (de_callB call_lenA c_len rfl T.fr_len bt_len (da_cons (de_var 4) da_nil)) da_nil))) da_nil))))))) dss_nil) (dss_one (ds_ret de_non))))))))
theorem sc_behind_asleep : FnScope ["shape", "stand", "event", "picture", "answer", "writes"] ["shape", "stand", "event"] (defScope (topS 51)) := ⟨rfl, rfl, rfl, by decide +kernel, rfl, by decide +kernel, by decide +kernel⟩
theorem kn_behind_asleep {P : Program} {w : World} {K : PySem.W.Frag} {mg : Str → Option Value} {base : Heap} (T : Top K mg) : Kn P w K mg base 8 "behind_asleep" ["shape", "stand", "event"] g_behind_asleep := by
  obtain ⟨fd, F⟩ := T.says.def_ 34 (d := dD_behind_asleep) rfl
  exact kn_of (N := ["shape", "stand", "event", "picture", "answer", "writes"]) (m := m_behind_asleep) F (T.glo 34) sc_behind_asleep (F.bindsN fun _ _ _ _ _ _ us hl => match us, hl with | [_, _, _], _ => rfl) (fun cdv A outer s H E hr => have sc := sc_behind_asleep; have hu := hu_of hr; have hv := hv_of hr; (dss_cons (ds_par (i := 3) (j := 4) rfl sc.nd rfl rfl (by decide) rfl rfl (da_cons (de_ix (de_var 1) de_int fun _ _ => rfl) (da_cons (de_call ((kn_answer_in T).mono (by omega)) hr rfl (da_cons (de_var 0) (da_cons (de_ix (de_var 1) de_int fun _ _ => rfl) da_nil)) (lenA_cons (lenA_cons lenA_nil))) da_nil)) rfl) (dss_cons (ds_if (dt_cmp op_isN o_is (de_var 4) de_non rfl) (dss_one (ds_ret de_non)) dss_nil) (dss_cons (ds_set (i := 5) sc.nd rfl (Or.inl rfl) (de_call ((kn_writes_at T).mono (by omega)) hr rfl (da_cons (de_var 0) (da_cons (de_var 3) (da_cons (de_var 4) da_nil))) (lenA_cons (lenA_cons (lenA_cons lenA_nil))))) (dss_cons (ds_if (dt_w (dw_and (dt_val (de_call ((kn_is_long T).mono (by omega)) hr rfl (da_cons (de_var 2) (da_cons de_int da_nil)) (lenA_cons (lenA_cons lenA_nil)))) (dw_and1 (dt_cmp (op_eqD hv) o_eq (de_ix (de_var 2) de_int fun _ _ => rfl) de_str rfl)))) (dss_one (ds_ret (de_tup (da_cons (de_call ((kn_fallen T).mono (by omega)) hr rfl (da_cons (de_var 3) (da_cons (de_var 5) (da_cons (de_bin (op_mul.or op_mulT) o_mulA (de_tup (da_cons (gl_NEW_log T rfl) da_nil)) (de_callB call_lenA c_len rfl T.fr_len bt_len (da_cons (de_var 5) da_nil))) da_nil))) (lenA_cons (lenA_cons (lenA_cons lenA_nil)))) (da_cons (de_tup da_nil) (da_cons (de_var 4) (da_cons de_non da_nil))))))) dss_nil) (dss_cons (ds_if (dt_w (dw_or (dt_not (dt_val (de_call ((kn_is_long T).mono (by omega)) hr rfl (da_cons (de_var 2) (da_cons de_int da_nil)) (lenA_cons (lenA_cons lenA_nil))))) (dw_or (dt_cmp (op_neD hv) o_ne (de_ix (de_var 2) de_int fun _ _ => rfl) de_str rfl) (dw_or1 (dt_not (dt_val (de_call ((kn_is_within T).mono (by omega)) hr rfl (da_cons (de_ix (de_var 2) de_int fun _ _ => rfl) (da_cons de_int (da_cons (de_callB call_lenA c_len rfl T.fr_len bt_len (da_cons (de_var 5) da_nil)) da_nil))) (lenA_cons (lenA_cons (lenA_cons lenA_nil)))))))))) (dss_one (ds_ret de_non)) dss_nil) (dss_cons (ds_if (dt_not (dt_val (de_call ((kn_are_fates T).mono (by omega)) hr rfl (da_cons (de_ix (de_var 2) de_int fun _ _ => rfl) (da_cons (de_ix (de_var 2) de_int fun _ _ => rfl) da_nil)) (lenA_cons (lenA_cons lenA_nil))))) (dss_one (ds_ret de_non)) dss_nil) (dss_one (ds_ret (de_tup (da_cons (de_call ((kn_fallen T).mono (by omega)) hr rfl (da_cons (de_var 3) (da_cons (de_sl (de_var 5) do_none (do_some (de_ix (de_var 2) de_int fun _ _ => rfl))) (da_cons (de_ix (de_var 2) de_int fun _ _ => rfl) da_nil))) (lenA_cons (lenA_cons (lenA_cons lenA_nil)))) (da_cons (de_tup da_nil) (da_cons de_non (da_cons (de_ix (de_var 1) de_int fun _ _ => rfl) da_nil))))))))))))))
theorem sc_life_in : FnScope ["shape", "life", "stand", "event"] ["shape", "life"] (defScope (topS 52)) := ⟨rfl, rfl, rfl, by decide +kernel, rfl, by decide +kernel, by decide +kernel⟩
theorem kn_life_in {P : Program} {w : World} {K : PySem.W.Frag} {mg : Str → Option Value} {base : Heap} (T : Top K mg) : Kn P w K mg base 9 "life_in" ["shape", "life"] g_life_in := by
  obtain ⟨fd, F⟩ := T.says.def_ 35 (d := dD_life_in) rfl
  exact kn_of (N := ["shape", "life", "stand", "event"]) (m := m_life_in) F (T.glo 35) sc_life_in (F.bindsN fun _ _ _ _ _ _ us hl => match us, hl with | [_, _], _ => rfl) (fun cdv A outer s H E hr => have sc := sc_life_in; have hu := hu_of hr; have hv := hv_of hr; (dss_cons (ds_set (i := 2) sc.nd rfl (Or.inl rfl) (de_call ((kn_begun_life T).mono (by omega)) hr rfl (da_cons (de_var 0) da_nil) (lenA_cons lenA_nil))) (dss_cons (ds_for PassesOwn.never rfl (di_sq (de_var 1)) (dn_name (i := 3) sc.nd rfl (Or.inl rfl)) (dss_one (ds_if (dt_w (dw_and (dt_cmp op_notN o_isnot (de_var 2) de_non rfl) (dw_and1 (dt_val (de_callB call_isiA c_isi rfl T.fr_isinstance bt_isinstance (da_cons (de_var 3) (da_cons (de_ty (n := .tuple) rfl T.fr_tuple bt_tuple) da_nil))))))) (dss_one (ds_set (i := 2) sc.nd rfl (Or.inl rfl) (de_if (dt_cmp op_isN o_is (de_ix (de_var 2) de_int fun _ _ => rfl) de_non rfl) (de_call ((kn_behind_asleep T).mono (by omega)) hr rfl (da_cons (de_var 0) (da_cons (de_var 2) (da_cons (de_var 3) da_nil))) (lenA_cons (lenA_cons (lenA_cons lenA_nil)))) (de_call ((kn_behind_awake T).mono (by omega)) hr rfl (da_cons (de_var 0) (da_cons (de_var 2) (da_cons (de_var 3) da_nil))) (lenA_cons (lenA_cons (lenA_cons lenA_nil))))))) (dss_one (ds_ret de_non))))) (dss_one (ds_ret (de_var 2))))))
theorem sc_bars_in : FnScope ["shape", "picture", "place", "cells", "flight", "_", "found", "own", "fits"] ["shape", "picture", "place"] (defScope (topS 55)) := ⟨rfl, rfl, rfl, by decide +kernel, rfl, by decide +kernel, by decide +kernel⟩
theorem kn_bars_in {P : Program} {w : World} {K : PySem.W.Frag} {mg : Str → Option Value} {base : Heap} (T : Top K mg) : Kn P w K mg base 3 "bars_in" ["shape", "picture", "place"] g_bars_in := by
  obtain ⟨fd, F⟩ := T.says.def_ 36 (d := dD_bars_in) rfl
  exact Kn.trimG (kn_of (N := ["shape", "picture", "place", "cells", "flight", "_", "found", "own", "fits"]) (m := m_bars_in) F (T.glo 36) sc_bars_in (F.bindsN fun _ _ _ _ _ _ us hl => match us, hl with | [_, _, _], _ => rfl) (fun cdv A outer s H E hr => have sc := sc_bars_in; have hu := hu_of hr; have hv := hv_of hr; (dss_cons (ds_asgN (de_var 0) (dn_tup rfl (dns_cons (dn_name (i := 3) sc.nd rfl (Or.inr rfl)) (dns_cons (dn_name (i := 4) sc.nd rfl (Or.inl rfl)) (dns_cons (dn_name (i := 5) sc.nd rfl (Or.inl rfl)) dns_nil))) (lenN_cons (lenN_cons (lenN_cons lenN_nil))))) (dss_cons (ds_setMut (ps_setC (i := 6) (own := [("own", 7)]) rfl sc.nd rfl rfl rfl (di_range2 rfl T.fr_range (de_bin (op_add.or op_catA) o_add (de_bin op_sub o_sub (de_var 2) (de_var 3)) (de_var 4)) (de_var 2)) (blkOk_by (own := [("own", 7)]) (by kernel_rfl)) (fun s H C cl fp => (dn_name (i := 7) sc.nd rfl (Or.inl rfl))) (fun s H C cl fp => (dts_one (dt_not (dt_val (de_call ((kn_shows_in T).mono (by omega)) hr rfl (da_cons (de_var 0) (da_cons (de_var 1) (da_cons (de_var 7) da_nil))) (lenA_cons (lenA_cons (lenA_cons lenA_nil)))))))) (fun s H C cl fp => (de_bin op_modN o_mod (de_var 7) (de_var 3)))) (inN_name (by decide))) (dss_cons (ds_for PassesOwn.never rfl (di_range2 rfl T.fr_range (de_var 2) (de_bin (op_add.or op_catA) o_add (de_var 2) (de_var 4))) (dn_name (i := 7) sc.nd rfl (Or.inl rfl)) (dss_cons (ds_set (i := 8) sc.nd rfl (Or.inl rfl) (de_or (de_call ((kn_shows_in T).mono (by omega)) hr rfl (da_cons (de_var 0) (da_cons (de_var 1) (da_cons (de_var 7) da_nil))) (lenA_cons (lenA_cons (lenA_cons lenA_nil)))) (de_one (de_call ((kn_shows_in T).mono (by omega)) hr rfl (da_cons (de_var 0) (da_cons (de_var 1) (da_cons (de_bin op_sub o_sub (de_var 7) (de_var 3)) da_nil))) (lenA_cons (lenA_cons (lenA_cons lenA_nil))))))) (dss_one (ds_if (dt_w (dw_and (dt_cmp (op_neD hv) o_ne (de_ix (de_var 1) (de_bin op_modN o_mod (de_var 7) (de_var 3)) fun _ _ => rfl) (gl_TORN_devices T rfl) rfl) (dw_and1 (dt_not (dt_val (de_var 8)))))) (dss_one (ds_expr (de_append (de_var 6) (de_bin op_modN o_mod (de_var 7) (de_var 3))))) dss_nil)))) (dss_one (ds_ret (de_imm (df_callB cr_sortedI c_sorted rfl T.fr_sorted bt_sorted (da_cons (de_var 6) da_nil))))))))))
theorem sc_bars : FnScope ["shape", "picture", "place", "own", "cells"] ["shape", "picture", "place"] (defScope (topS 56)) := ⟨rfl, rfl, rfl, by decide +kernel, rfl, by decide +kernel, by decide +kernel⟩
theorem knK_bars {P : Program} {w : World} {K : PySem.W.Frag} {mg : Str → Option Value} {base : Heap} (T : Top K mg) : KnK P w K mg base 16 "bars" ["shape", "picture", "place"] ["place", "picture", "shape"] g3 g_bars := by
  obtain ⟨fd, F⟩ := T.says.def_ 37 (d := dD_bars) rfl
  exact knk_of F (T.glo 37) (bindsKw_of F fun _ _ _ _ _ _ us hl => match us, hl with | [_, _, _], _ => rfl) (kn_ok F sc_bars (fun cdv A outer s H E hr => have sc := sc_bars; have hu := hu_of hr; have hv := hv_of hr; (dss_cons (ds_asgN (de_call ((kn_sure_both T).mono (by omega)) hr rfl (da_cons (de_var 0) (da_cons (de_var 1) da_nil)) (lenA_cons (lenA_cons lenA_nil))) (dn_tup rfl (dns_cons (dn_name (i := 3) sc.nd rfl (Or.inl rfl)) (dns_cons (dn_name (i := 4) sc.nd rfl (Or.inl rfl)) dns_nil)) (lenN_cons (lenN_cons lenN_nil)))) (dss_one (ds_ret (de_callTy call_tuple_of c_tuple rfl T.fr_tuple bt_tuple (da_cons (de_call ((kn_bars_in T).mono (by omega)) hr rfl (da_cons (de_var 3) (da_cons (de_var 4) (da_cons (de_call ((kn_sure_place T).mono (by omega)) hr rfl (da_cons (de_var 3) (da_cons (de_var 2) da_nil)) (lenA_cons (lenA_cons lenA_nil))) da_nil))) (lenA_cons (lenA_cons (lenA_cons lenA_nil)))) da_nil)))))))
theorem kn_bars {P : Program} {w : World} {K : PySem.W.Frag} {mg : Str → Option Value} {base : Heap} (T : Top K mg) : Kn P w K mg base 16 "bars" ["shape", "picture", "place"] g_bars := by
  obtain ⟨fd, F⟩ := T.says.def_ 37 (d := dD_bars) rfl
  exact kn_of (N := ["shape", "picture", "place", "own", "cells"]) (m := m_bars) F (T.glo 37) sc_bars (F.bindsN fun _ _ _ _ _ _ us hl => match us, hl with | [_, _, _], _ => rfl) (fun cdv A outer s H E hr => have sc := sc_bars; have hu := hu_of hr; have hv := hv_of hr; (dss_cons (ds_asgN (de_call ((kn_sure_both T).mono (by omega)) hr rfl (da_cons (de_var 0) (da_cons (de_var 1) da_nil)) (lenA_cons (lenA_cons lenA_nil))) (dn_tup rfl (dns_cons (dn_name (i := 3) sc.nd rfl (Or.inl rfl)) (dns_cons (dn_name (i := 4) sc.nd rfl (Or.inl rfl)) dns_nil)) (lenN_cons (lenN_cons lenN_nil)))) (dss_one (ds_ret (de_callTy call_tuple_of c_tuple rfl T.fr_tuple bt_tuple (da_cons (de_call ((kn_bars_in T).mono (by omega)) hr rfl (da_cons (de_var 3) (da_cons (de_var 4) (da_cons (de_call ((kn_sure_place T).mono (by omega)) hr rfl (da_cons (de_var 3) (da_cons (de_var 2) da_nil)) (lenA_cons (lenA_cons lenA_nil))) da_nil))) (lenA_cons (lenA_cons (lenA_cons lenA_nil)))) da_nil))))))
theorem sc_all_bars : FnScope ["shape", "picture", "place"] ["shape", "picture"] (defScope (topS 57)) := ⟨rfl, rfl, rfl, by decide +kernel, rfl, by decide +kernel, by decide +kernel⟩
theorem kn_all_bars {P : Program} {w : World} {K : PySem.W.Frag} {mg : Str → Option Value} {base : Heap} (T : Top K mg) : Kn P w K mg base 4 "all_bars" ["shape", "picture"] g_all_bars := by
  obtain ⟨fd, F⟩ := T.says.def_ 38 (d := dD_all_bars) rfl
  exact kn_of (N := ["shape", "picture", "place"]) (m := m_all_bars) F (T.glo 38) sc_all_bars (F.bindsN fun _ _ _ _ _ _ us hl => match us, hl with | [_, _], _ => rfl) (fun cdv A outer s H E hr => have sc := sc_all_bars; have hu := hu_of hr; have hv := hv_of hr; (dss_one (ds_ret (de_imm (df_lc (own := [("place", 2)]) rfl sc.nd (di_range1 rfl T.fr_range (de_bin (op_mul.or op_mulT) o_mulA (de_ix (de_var 0) de_int fun _ _ => rfl) (de_ix (de_var 0) de_int fun _ _ => rfl))) (blkOk_by (own := [("place", 2)]) (by kernel_rfl)) (fun s H C cl fp => (dn_name (i := 2) sc.nd rfl (Or.inl rfl))) (fun s H C cl fp => dts_nil) (fun s H C cl fp => (de_call ((kn_bars_in T).mono (by omega)) hr rfl (da_cons (de_var 0) (da_cons (de_var 1) (da_cons (de_var 2) da_nil))) (lenA_cons (lenA_cons (lenA_cons lenA_nil))))) (inN_name (by decide)))))))
theorem sc_can_lie_in : FnScope ["shape", "picture"] ["shape", "picture"] (defScope (topS 58)) := ⟨rfl, rfl, rfl, by decide +kernel, rfl, by decide +kernel, by decide +kernel⟩
theorem kn_can_lie_in {P : Program} {w : World} {K : PySem.W.Frag} {mg : Str → Option Value} {base : Heap} (T : Top K mg) : Kn P w K mg base 5 "can_lie_in" ["shape", "picture"] g_can_lie_in := by
  obtain ⟨fd, F⟩ := T.says.def_ 39 (d := dD_can_lie_in) rfl
  exact kn_of (N := ["shape", "picture"]) (m := m_can_lie_in) F (T.glo 39) sc_can_lie_in (F.bindsN fun _ _ _ _ _ _ us hl => match us, hl with | [_, _], _ => rfl) (fun cdv A outer s H E hr => have sc := sc_can_lie_in; have hu := hu_of hr; have hv := hv_of hr; (dss_one (ds_ret (de_cmp (op_inB hu) (o_in false) (de_imm (df_lst da_nil)) (de_call ((kn_all_bars T).mono (by omega)) hr rfl (da_cons (de_var 0) (da_cons (de_var 1) da_nil)) (lenA_cons (lenA_cons lenA_nil))) rfl))))
theorem sc_can_lie : FnScope ["shape", "picture", "own", "cells"] ["shape", "picture"] (defScope (topS 59)) := ⟨rfl, rfl, rfl, by decide +kernel, rfl, by decide +kernel, by decide +kernel⟩
theorem kn_can_lie {P : Program} {w : World} {K : PySem.W.Frag} {mg : Str → Option Value} {base : Heap} (T : Top K mg) : Kn P w K mg base 16 "can_lie" ["shape", "picture"] g_can_lie := by
  obtain ⟨fd, F⟩ := T.says.def_ 40 (d := dD_can_lie) rfl
  exact kn_of (N := ["shape", "picture", "own", "cells"]) (m := m_can_lie) F (T.glo 40) sc_can_lie (F.bindsN fun _ _ _ _ _ _ us hl => match us, hl with | [_, _], _ => rfl) (fun cdv A outer s H E hr => have sc := sc_can_lie; have hu := hu_of hr; have hv := hv_of hr; (dss_cons (ds_asgN (de_call ((kn_sure_both T).mono (by omega)) hr rfl (da_cons (de_var 0) (da_cons (de_var 1) da_nil)) (lenA_cons (lenA_cons lenA_nil))) (dn_tup rfl (dns_cons (dn_name (i := 2) sc.nd rfl (Or.inl rfl)) (dns_cons (dn_name (i := 3) sc.nd rfl (Or.inl rfl)) dns_nil)) (lenN_cons (lenN_cons lenN_nil)))) (dss_one (ds_ret (de_call ((kn_can_lie_in T).mono (by omega)) hr rfl (da_cons (de_var 2) (da_cons (de_var 3) da_nil)) (lenA_cons (lenA_cons lenA_nil)))))))
theorem sc_stood_record : FnScope ["shape", "picture", "number"] ["shape", "picture", "number"] (defScope (topS 60)) := ⟨rfl, rfl, rfl, by decide +kernel, rfl, by decide +kernel, by decide +kernel⟩
theorem kn_stood_record {P : Program} {w : World} {K : PySem.W.Frag} {mg : Str → Option Value} {base : Heap} (T : Top K mg) : Kn P w K mg base 3 "stood_record" ["shape", "picture", "number"] g_stood_record := by
  obtain ⟨fd, F⟩ := T.says.def_ 41 (d := dD_stood_record) rfl
  exact kn_of (N := ["shape", "picture", "number"]) (m := m_stood_record) F (T.glo 41) sc_stood_record (F.bindsN fun _ _ _ _ _ _ us hl => match us, hl with | [_, _, _], _ => rfl) (fun cdv A outer s H E hr => have sc := sc_stood_record; have hu := hu_of hr; have hv := hv_of hr; (dss_one (ds_ret (de_if (dt_val (de_call ((kn_shows_in T).mono (by omega)) hr rfl (da_cons (de_var 0) (da_cons (de_var 1) (da_cons (de_var 2) da_nil))) (lenA_cons (lenA_cons (lenA_cons lenA_nil))))) (de_ix (de_ix (de_var 1) (de_bin op_modN o_mod (de_var 2) (de_ix (de_var 0) de_int fun _ _ => rfl)) fun _ _ => rfl) de_int fun _ _ => rfl) (gl_BLANK_examiner T rfl)))))
theorem sc_flown_at : FnScope ["shape", "picture", "number", "cell"] ["shape", "picture", "number"] (defScope (topS 61)) := ⟨rfl, rfl, rfl, by decide +kernel, rfl, by decide +kernel, by decide +kernel⟩
theorem kn_flown_at {P : Program} {w : World} {K : PySem.W.Frag} {mg : Str → Option Value} {base : Heap} (T : Top K mg) : Kn P w K mg base 3 "flown_at" ["shape", "picture", "number"] g_flown_at := by
  obtain ⟨fd, F⟩ := T.says.def_ 42 (d := dD_flown_at) rfl
  exact kn_of (N := ["shape", "picture", "number", "cell"]) (m := m_flown_at) F (T.glo 42) sc_flown_at (F.bindsN fun _ _ _ _ _ _ us hl => match us, hl with | [_, _, _], _ => rfl) (fun cdv A outer s H E hr => have sc := sc_flown_at; have hu := hu_of hr; have hv := hv_of hr; (dss_cons (ds_set (i := 3) sc.nd rfl (Or.inl rfl) (de_ix (de_var 1) (de_bin op_modN o_mod (de_var 2) (de_ix (de_var 0) de_int fun _ _ => rfl)) fun _ _ => rfl)) (dss_cons (ds_if (dt_cmp (op_eqD hv) o_eq (de_var 3) (gl_TORN_devices T rfl) rfl) (dss_one (ds_ret (de_tup (da_cons (gl_BLANK_examiner T rfl) (da_cons de_str da_nil))))) dss_nil) (dss_one (ds_ret (de_if (dt_val (de_call ((kn_shows_in T).mono (by omega)) hr rfl (da_cons (de_var 0) (da_cons (de_var 1) (da_cons (de_bin op_sub o_sub (de_var 2) (de_ix (de_var 0) de_int fun _ _ => rfl)) da_nil))) (lenA_cons (lenA_cons (lenA_cons lenA_nil))))) (de_tup (da_cons (gl_BLANK_examiner T rfl) (da_cons de_str da_nil))) (de_tup (da_cons (de_ix (de_var 3) de_int fun _ _ => rfl) (da_cons de_str da_nil)))))))))
theorem sc_life_to : FnScope ["shape", "picture", "own", "cells", "first", "many", "stand", "flown", "writes", "number", "record", "_", "fate"] ["shape", "picture"] (defScope (topS 62)) := ⟨rfl, rfl, rfl, by decide +kernel, rfl, by decide +kernel, by decide +kernel⟩
theorem kn_life_to {P : Program} {w : World} {K : PySem.W.Frag} {mg : Str → Option Value} {base : Heap} (T : Top K mg) : KnX P w K mg base (He.ga K "CanNot") 16 "life_to" ["shape", "picture"] ["picture", "shape"] g2 g_life_to := by
  obtain ⟨fd, F⟩ := T.says.def_ 43 (d := dD_life_to) rfl
  exact knx_of F (T.glo 43) sc_life_to (bindsKw_of F fun _ _ _ _ _ _ us hl => match us, hl with | [_, _], _ => rfl) fun cdv A outer s H E hr tk => have sc := sc_life_to; have hu := hu_of hr; have hv := hv_of hr; (dxs_cons (ds_asgN (de_call ((kn_sure_both T).mono (by omega)) hr rfl (da_cons (de_var 0) (da_cons (de_var 1) da_nil)) (lenA_cons (lenA_cons lenA_nil))) (dn_tup rfl (dns_cons (dn_name (i := 2) sc.nd rfl (Or.inr rfl)) (dns_cons (dn_name (i := 3) sc.nd rfl (Or.inr rfl)) dns_nil)) (lenN_cons (lenN_cons lenN_nil)))) (dxs_guard (dt_not (dt_val (de_call ((kn_can_lie_in T).mono (by omega)) hr rfl (da_cons (de_var 2) (da_cons (de_var 3) da_nil)) (lenA_cons (lenA_cons lenA_nil))))) (ps_raise rfl tk (pmk_own0 PySem.F.excBase_ValueError T.excIn.1 T.cannot T.excIn.2.1 (raises_own T.excIn.2.2.1 T.excIn.2.2.2) rfl)) (dss_cons (ds_set (i := 4) sc.nd rfl (Or.inl rfl) (de_index hu (de_call ((kn_all_bars T).mono (by omega)) hr rfl (da_cons (de_var 2) (da_cons (de_var 3) da_nil)) (lenA_cons (lenA_cons lenA_nil))) (de_imm (df_lst da_nil)))) (dss_cons (ds_set (i := 5) sc.nd rfl (Or.inl rfl) (de_if (dt_cmp op_ge o_int (de_var 4) (de_ix (de_var 2) de_int fun _ _ => rfl) rfl) (de_var 4) (de_bin (op_add.or op_catA) o_add (de_var 4) (de_bin (op_mul.or op_mulT) o_mulA (de_ix (de_var 2) de_int fun _ _ => rfl) (de_ix (de_var 2) de_int fun _ _ => rfl))))) (dss_cons (ds_setImm (ps_setC (i := 6) (own := [("number", 9)]) rfl sc.nd rfl rfl rfl (di_range1 rfl T.fr_range (de_var 5)) (blkOk_by (own := [("number", 9)]) (by kernel_rfl)) (fun s H C cl fp => (dn_name (i := 9) sc.nd rfl (Or.inl rfl))) (fun s H C cl fp => dts_nil) (fun s H C cl fp => (de_tup (da_cons de_str (da_cons (de_call ((kn_stood_record T).mono (by omega)) hr rfl (da_cons (de_var 2) (da_cons (de_var 3) (da_cons (de_var 9) da_nil))) (lenA_cons (lenA_cons (lenA_cons lenA_nil)))) da_nil))))) (inN_name (by decide))) (dss_cons (ds_setImm (ps_setC (i := 7) (own := [("number", 9)]) rfl sc.nd rfl rfl rfl (di_range2 rfl T.fr_range (de_var 5) (de_bin (op_add.or op_catA) o_add (de_var 5) (de_ix (de_var 2) de_int fun _ _ => rfl))) (blkOk_by (own := [("number", 9)]) (by kernel_rfl)) (fun s H C cl fp => (dn_name (i := 9) sc.nd rfl (Or.inl rfl))) (fun s H C cl fp => dts_nil) (fun s H C cl fp => (de_call ((kn_flown_at T).mono (by omega)) hr rfl (da_cons (de_var 2) (da_cons (de_var 3) (da_cons (de_var 9) da_nil))) (lenA_cons (lenA_cons (lenA_cons lenA_nil)))))) (inN_name (by decide))) (dss_cons (ds_setImm (ps_setC (i := 8) (own := [("record", 10), ("_", 11)]) rfl sc.nd rfl rfl rfl (di_sq (de_var 7)) (blkOk_by (own := [("record", 10), ("_", 11)]) (by kernel_rfl)) (fun s H C cl fp => (dn_tup rfl (dns_cons (dn_name (i := 10) sc.nd rfl (Or.inl rfl)) (dns_cons (dn_name (i := 11) sc.nd rfl (Or.inl rfl)) dns_nil)) (lenN_cons (lenN_cons lenN_nil)))) (fun s H C cl fp => dts_nil) (fun s H C cl fp => (de_tup (da_cons de_str (da_cons (de_var 10) da_nil))))) (inN_tup (inN_cons (inN_name (by decide)) (inN_cons (inN_name (by decide)) inN_nil)))) (dss_one (ds_ret (de_callTy call_tuple_of c_tuple rfl T.fr_tuple bt_tuple (da_cons (de_imm (df_cat (de_imm (df_cat (de_imm (df_cat (de_var 6) (de_imm (df_lst (da_cons (de_tup (da_cons de_str da_nil)) da_nil))))) (de_var 8))) (de_imm (df_lst (da_cons (de_tup (da_cons de_str (da_cons (de_callTy call_tuple_of c_tuple rfl T.fr_tuple bt_tuple (da_cons (de_imm (df_lc (own := [("_", 11), ("fate", 12)]) rfl sc.nd (di_sq (de_var 7)) (blkOk_by (own := [("_", 11), ("fate", 12)]) (by kernel_rfl)) (fun s H C cl fp => (dn_tup rfl (dns_cons (dn_name (i := 11) sc.nd rfl (Or.inl rfl)) (dns_cons (dn_name (i := 12) sc.nd rfl (Or.inl rfl)) dns_nil)) (lenN_cons (lenN_cons lenN_nil)))) (fun s H C cl fp => dts_nil) (fun s H C cl fp => (de_var 12)) (inN_tup (inN_cons (inN_name (by decide)) (inN_cons (inN_name (by decide)) inN_nil))))) da_nil)) da_nil))) da_nil))))) da_nil)))))))))))
theorem sc_is_life_to : FnScope ["shape", "picture", "thing", "own", "cells", "behind"] ["shape", "picture", "thing"] (defScope (topS 63)) := ⟨rfl, rfl, rfl, by decide +kernel, rfl, by decide +kernel, by decide +kernel⟩
theorem knK_is_life_to {P : Program} {w : World} {K : PySem.W.Frag} {mg : Str → Option Value} {base : Heap} (T : Top K mg) : KnK P w K mg base 16 "is_life_to" ["shape", "picture", "thing"] ["thing", "picture", "shape"] g3 g_is_life_to := by
  obtain ⟨fd, F⟩ := T.says.def_ 44 (d := dD_is_life_to) rfl
  exact knk_of F (T.glo 44) (bindsKw_of F fun _ _ _ _ _ _ us hl => match us, hl with | [_, _, _], _ => rfl) (kn_ok F sc_is_life_to (fun cdv A outer s H E hr => have sc := sc_is_life_to; have hu := hu_of hr; have hv := hv_of hr; (dss_cons (ds_asgN (de_call ((kn_sure_both T).mono (by omega)) hr rfl (da_cons (de_var 0) (da_cons (de_var 1) da_nil)) (lenA_cons (lenA_cons lenA_nil))) (dn_tup rfl (dns_cons (dn_name (i := 3) sc.nd rfl (Or.inl rfl)) (dns_cons (dn_name (i := 4) sc.nd rfl (Or.inl rfl)) dns_nil)) (lenN_cons (lenN_cons lenN_nil)))) (dss_cons (ds_set (i := 5) sc.nd rfl (Or.inl rfl) (de_if (dt_val (de_callB call_isiA c_isi rfl T.fr_isinstance bt_isinstance (da_cons (de_var 2) (da_cons (de_ty (n := .tuple) rfl T.fr_tuple bt_tuple) da_nil)))) (de_call ((kn_life_in T).mono (by omega)) hr rfl (da_cons (de_var 3) (da_cons (de_var 2) da_nil)) (lenA_cons (lenA_cons lenA_nil))) de_non)) (dss_one (ds_ret (de_and (de_cmp op_notN o_isnot (de_var 5) de_non rfl) (de_one (de_cmp (op_eqD hv) o_eq (de_ix (de_var 5) de_int fun _ _ => rfl) (de_var 4) rfl)))))))))
theorem kn_is_life_to {P : Program} {w : World} {K : PySem.W.Frag} {mg : Str → Option Value} {base : Heap} (T : Top K mg) : Kn P w K mg base 16 "is_life_to" ["shape", "picture", "thing"] g_is_life_to := by
  obtain ⟨fd, F⟩ := T.says.def_ 44 (d := dD_is_life_to) rfl
  exact kn_of (N := ["shape", "picture", "thing", "own", "cells", "behind"]) (m := m_is_life_to) F (T.glo 44) sc_is_life_to (F.bindsN fun _ _ _ _ _ _ us hl => match us, hl with | [_, _, _], _ => rfl) (fun cdv A outer s H E hr => have sc := sc_is_life_to; have hu := hu_of hr; have hv := hv_of hr; (dss_cons (ds_asgN (de_call ((kn_sure_both T).mono (by omega)) hr rfl (da_cons (de_var 0) (da_cons (de_var 1) da_nil)) (lenA_cons (lenA_cons lenA_nil))) (dn_tup rfl (dns_cons (dn_name (i := 3) sc.nd rfl (Or.inl rfl)) (dns_cons (dn_name (i := 4) sc.nd rfl (Or.inl rfl)) dns_nil)) (lenN_cons (lenN_cons lenN_nil)))) (dss_cons (ds_set (i := 5) sc.nd rfl (Or.inl rfl) (de_if (dt_val (de_callB call_isiA c_isi rfl T.fr_isinstance bt_isinstance (da_cons (de_var 2) (da_cons (de_ty (n := .tuple) rfl T.fr_tuple bt_tuple) da_nil)))) (de_call ((kn_life_in T).mono (by omega)) hr rfl (da_cons (de_var 3) (da_cons (de_var 2) da_nil)) (lenA_cons (lenA_cons lenA_nil))) de_non)) (dss_one (ds_ret (de_and (de_cmp op_notN o_isnot (de_var 5) de_non rfl) (de_one (de_cmp (op_eqD hv) o_eq (de_ix (de_var 5) de_int fun _ _ => rfl) (de_var 4) rfl))))))))
theorem sc_reason : FnScope ["shape", "picture", "own", "cells", "found"] ["shape", "picture"] (defScope (topS 64)) := ⟨rfl, rfl, rfl, by decide +kernel, rfl, by decide +kernel, by decide +kernel⟩
theorem kn_reason {P : Program} {w : World} {K : PySem.W.Frag} {mg : Str → Option Value} {base : Heap} (T : Top K mg) : KnX P w K mg base (He.ga K "CanNot") 16 "reason" ["shape", "picture"] ["picture", "shape"] g2 g_reason := by
  obtain ⟨fd, F⟩ := T.says.def_ 45 (d := dD_reason) rfl
  exact knx_of F (T.glo 45) sc_reason (bindsKw_of F fun _ _ _ _ _ _ us hl => match us, hl with | [_, _], _ => rfl) fun cdv A outer s H E hr tk => have sc := sc_reason; have hu := hu_of hr; have hv := hv_of hr; (dxs_cons (ds_asgN (de_call ((kn_sure_both T).mono (by omega)) hr rfl (da_cons (de_var 0) (da_cons (de_var 1) da_nil)) (lenA_cons (lenA_cons lenA_nil))) (dn_tup rfl (dns_cons (dn_name (i := 2) sc.nd rfl (Or.inl rfl)) (dns_cons (dn_name (i := 3) sc.nd rfl (Or.inl rfl)) dns_nil)) (lenN_cons (lenN_cons lenN_nil)))) (dxs_cons (ds_set (i := 4) sc.nd rfl (Or.inl rfl) (de_call ((kn_all_bars T).mono (by omega)) hr rfl (da_cons (de_var 2) (da_cons (de_var 3) da_nil)) (lenA_cons (lenA_cons lenA_nil)))) (dxs_guard (dt_cmp (op_inB hu) (o_in false) (de_imm (df_lst da_nil)) (de_var 4) rfl) (ps_raise rfl tk (pmk_own0 PySem.F.excBase_ValueError T.excIn.1 T.cannot T.excIn.2.1 (raises_own T.excIn.2.2.1 T.excIn.2.2.2) rfl)) (dss_one (ds_ret (de_callTy call_tuple_of c_tuple rfl T.fr_tuple bt_tuple (da_cons (de_imm (df_lc (own := [("cells", 3)]) rfl sc.nd (di_sq (de_var 4)) (blkOk_by (own := [("cells", 3)]) (by kernel_rfl)) (fun s H C cl fp => (dn_name (i := 3) sc.nd rfl (Or.inl rfl))) (fun s H C cl fp => dts_nil) (fun s H C cl fp => (de_ix (de_var 3) de_int fun _ _ => rfl)) (inN_name (by decide)))) da_nil)))))))
theorem sc_is_reason : FnScope ["shape", "picture", "thing", "own", "cells", "found"] ["shape", "picture", "thing"] (defScope (topS 65)) := ⟨rfl, rfl, rfl, by decide +kernel, rfl, by decide +kernel, by decide +kernel⟩
theorem kn_is_reason {P : Program} {w : World} {K : PySem.W.Frag} {mg : Str → Option Value} {base : Heap} (T : Top K mg) : Kn P w K mg base 16 "is_reason" ["shape", "picture", "thing"] g_is_reason := by
  obtain ⟨fd, F⟩ := T.says.def_ 46 (d := dD_is_reason) rfl
  exact kn_of (N := ["shape", "picture", "thing", "own", "cells", "found"]) (m := m_is_reason) F (T.glo 46) sc_is_reason (F.bindsN fun _ _ _ _ _ _ us hl => match us, hl with | [_, _, _], _ => rfl) (fun cdv A outer s H E hr => have sc := sc_is_reason; have hu := hu_of hr; have hv := hv_of hr; (dss_cons (ds_asgN (de_call ((kn_sure_both T).mono (by omega)) hr rfl (da_cons (de_var 0) (da_cons (de_var 1) da_nil)) (lenA_cons (lenA_cons lenA_nil))) (dn_tup rfl (dns_cons (dn_name (i := 3) sc.nd rfl (Or.inl rfl)) (dns_cons (dn_name (i := 4) sc.nd rfl (Or.inl rfl)) dns_nil)) (lenN_cons (lenN_cons lenN_nil)))) (dss_cons (ds_set (i := 5) sc.nd rfl (Or.inl rfl) (de_call ((kn_all_bars T).mono (by omega)) hr rfl (da_cons (de_var 3) (da_cons (de_var 4) da_nil)) (lenA_cons (lenA_cons lenA_nil)))) (dss_cons (ds_if (dt_w (dw_or (dt_not (dt_val (de_call ((kn_is_long T).mono (by omega)) hr rfl (da_cons (de_var 2) (da_cons (de_callB call_lenA c_len rfl T.fr_len bt_len (da_cons (de_var 5) da_nil)) da_nil)) (lenA_cons (lenA_cons lenA_nil))))) (dw_or1 (dt_not (dt_val (de_callB (cr_all rfl) c_all rfl T.fr_all bt_all (da_cons (de_imm (df_lc (own := [("own", 3)]) rfl sc.nd (di_sq (de_var 2)) (blkOk_by (own := [("own", 3)]) (by kernel_rfl)) (fun s H C cl fp => (dn_name (i := 3) sc.nd rfl (Or.inl rfl))) (fun s H C cl fp => dts_nil) (fun s H C cl fp => (de_call ((kn_is_number T).mono (by omega)) hr rfl (da_cons (de_var 3) da_nil) (lenA_cons lenA_nil))) (inN_name (by decide)))) da_nil))))))) (dss_one (ds_ret de_bl)) dss_nil) (dss_one (ds_ret (de_callB (cr_all rfl) c_all rfl T.fr_all bt_all (da_cons (de_imm (df_lc (own := [("own", 3), ("cells", 4)]) rfl sc.nd (di_zip rfl T.fr_zip (de_var 2) (de_var 5)) (blkOk_by (own := [("own", 3), ("cells", 4)]) (by kernel_rfl)) (fun s H C cl fp => (dn_tup rfl (dns_cons (dn_name (i := 3) sc.nd rfl (Or.inl rfl)) (dns_cons (dn_name (i := 4) sc.nd rfl (Or.inl rfl)) dns_nil)) (lenN_cons (lenN_cons lenN_nil)))) (fun s H C cl fp => dts_nil) (fun s H C cl fp => (de_cmp (op_inB hu) (o_in false) (de_var 3) (de_var 4) rfl)) (inN_tup (inN_cons (inN_name (by decide)) (inN_cons (inN_name (by decide)) inN_nil))))) da_nil))))))))
theorem sc__law_box : FnScope ["_law_script", "_law_k", "_law_bit_so"] ["_law_script", "_law_k"] (defScope (topS 67)) := ⟨rfl, rfl, rfl, by decide +kernel, rfl, by decide +kernel, by decide +kernel⟩
theorem kn__law_box {P : Program} {w : World} {K : PySem.W.Frag} {mg : Str → Option Value} {base : Heap} (T : Top K mg) : Kn P w K mg base 1 "_law_box" ["_law_script", "_law_k"] g__law_box := by
  obtain ⟨fd, F⟩ := T.says.def_ 47 (d := dD__law_box) rfl
  exact kn_of (N := ["_law_script", "_law_k", "_law_bit_so"]) (m := m__law_box) F (T.glo 47) sc__law_box (F.bindsN fun _ _ _ _ _ _ us hl => match us, hl with | [_, _], _ => rfl) (fun cdv A outer s H E hr => have sc := sc__law_box; have hu := hu_of hr; have hv := hv_of hr; (dss_cons (ds_set (i := 2) sc.nd rfl (Or.inl rfl) (de_if (dt_cmp op_lt o_int (de_var 1) (de_callB call_lenA c_len rfl T.fr_len bt_len (da_cons (de_var 0) da_nil)) rfl) (de_ix (de_var 0) (de_var 1) fun _ _ => rfl) de_int)) (dss_one (ds_ret (de_mut (df_lst (da_cons (de_bin (op_mul.or op_mulT) o_mulA (de_callB call_abs c_abs rfl T.fr_abs bt_abs (da_cons (de_var 2) da_nil)) (de_callTy call_int1 c_int rfl T.fr_int bt_int (da_cons (de_cmp op_ge o_int (de_callB call_abs c_abs rfl T.fr_abs bt_abs (da_cons (de_var 2) da_nil)) (de_bin op_pow o_pow de_int de_int) rfl) da_nil))) (da_cons (de_bin (op_add.or op_catA) o_add (de_bin (op_add.or op_catA) o_add (de_bin op_modN o_mod (de_callTy call_int1 c_int rfl T.fr_int bt_int (da_cons (de_var 2) da_nil)) de_int) (de_bin (op_mul.or op_mulT) o_mulA de_int (de_var 1))) de_int) (da_cons de_int da_nil)))))))))
theorem sc__law_take : FnScope ["_law_tin", "_law_below_so", "_law_drawn", "_law_once_so", "_law_wide_so", "_law_twice_so"] ["_law_tin", "_law_below_so"] (defScope (topS 68)) := ⟨rfl, rfl, rfl, by decide +kernel, rfl, by decide +kernel, by decide +kernel⟩
theorem kn__law_take {P : Program} {w : World} {K : PySem.W.Frag} {mg : Str → Option Value} {base : Heap} (T : Top K mg) : Kn P w K mg base 1 "_law_take" ["_law_tin", "_law_below_so"] g__law_take := by
  obtain ⟨fd, F⟩ := T.says.def_ 48 (d := dD__law_take) rfl
  exact kn_of (N := ["_law_tin", "_law_below_so", "_law_drawn", "_law_once_so", "_law_wide_so", "_law_twice_so"]) (m := m__law_take) F (T.glo 48) sc__law_take (F.bindsN fun _ _ _ _ _ _ us hl => match us, hl with | [_, _], _ => rfl) (fun cdv A outer s H E hr => have sc := sc__law_take; have hu := hu_of hr; have hv := hv_of hr; (dss_cons (ds_if (dt_cmp op_gt o_int (de_ix (de_var 0) de_int fun _ _ => rfl) de_int rfl) (dss_cons (ds_set (i := 2) sc.nd rfl (Or.inl rfl) (de_bin op_modN o_mod (de_callTy call_int1 c_int rfl T.fr_int bt_int (da_cons (de_ix (de_var 0) de_int fun _ _ => rfl) da_nil)) (de_var 1))) (dss_cons (ds_asgG (de_bin op_fdivN o_div (de_ix (de_var 0) de_int fun _ _ => rfl) (de_var 1)) (dg_sub (de_var 0) de_int)) (dss_one (ds_ret (de_var 2))))) dss_nil) (dss_cons (ds_asgG (de_bin (op_add.or op_catA) o_add (de_ix (de_var 0) de_int fun _ _ => rfl) de_int) (dg_sub (de_var 0) de_int)) (dss_cons (ds_set (i := 3) sc.nd rfl (Or.inl rfl) (de_bin op_modN o_mod (de_callTy call_int1 c_int rfl T.fr_int bt_int (da_cons (de_bin (op_mul.or op_mulT) o_mulA (de_bin (op_add.or op_catA) o_add (de_ix (de_var 0) de_int fun _ _ => rfl) (de_bin (op_mul.or op_mulT) o_mulA de_int (de_ix (de_var 0) de_int fun _ _ => rfl))) (de_bin (op_add.or op_catA) o_add de_int (de_ix (de_var 0) de_int fun _ _ => rfl))) da_nil)) de_int)) (dss_cons (ds_set (i := 4) sc.nd rfl (Or.inl rfl) (de_bin (op_add.or op_catA) o_add (de_bin op_modN o_mod (de_callTy call_int1 c_int rfl T.fr_int bt_int (da_cons (de_var 3) da_nil)) de_int) de_int)) (dss_cons (ds_set (i := 5) sc.nd rfl (Or.inl rfl) (de_bin op_modN o_mod (de_callTy call_int1 c_int rfl T.fr_int bt_int (da_cons (de_bin (op_mul.or op_mulT) o_mulA (de_bin (op_add.or op_catA) o_add (de_bin (op_add.or op_catA) o_add (de_var 3) (de_ix (de_var 0) de_int fun _ _ => rfl)) (de_bin op_fdivN o_div (de_ix (de_var 0) de_int fun _ _ => rfl) de_int)) (de_var 4)) da_nil)) de_int)) (dss_one (ds_ret (de_bin op_modN o_mod (de_callTy call_int1 c_int rfl T.fr_int bt_int (da_cons (de_bin op_fdivN o_div (de_bin op_modN o_mod (de_callTy call_int1 c_int rfl T.fr_int bt_int (da_cons (de_bin (op_add.or op_catA) o_add (de_bin (op_mul.or op_mulT) o_mulA (de_var 5) de_int) (de_var 3)) da_nil)) de_int) de_int) da_nil)) (de_var 1))))))))))
theorem sc__law_cells : FnScope ["_law_script", "_law_most_so", "_law_cells_so", "_law_k", "_law_bit_so", "_law_at_so"] ["_law_script", "_law_most_so"] (defScope (topS 69)) := ⟨rfl, rfl, rfl, by decide +kernel, rfl, by decide +kernel, by decide +kernel⟩
theorem kn__law_cells {P : Program} {w : World} {K : PySem.W.Frag} {mg : Str → Option Value} {base : Heap} (T : Top K mg) : Kn P w K mg base 1 "_law_cells" ["_law_script", "_law_most_so"] g__law_cells := by
  obtain ⟨fd, F⟩ := T.says.def_ 49 (d := dD__law_cells) rfl
  exact kn_of (N := ["_law_script", "_law_most_so", "_law_cells_so", "_law_k", "_law_bit_so", "_law_at_so"]) (m := m__law_cells) F (T.glo 49) sc__law_cells (F.bindsN fun _ _ _ _ _ _ us hl => match us, hl with | [_, _], _ => rfl) (fun cdv A outer s H E hr => have sc := sc__law_cells; have hu := hu_of hr; have hv := hv_of hr; (dss_cons (ds_set (i := 2) sc.nd rfl (Or.inl rfl) (de_orL (de_mut (df_callTy call_list_of c_list rfl T.fr_list bt_list (da_cons (de_sl (de_var 0) do_none (do_some (de_var 1))) da_nil))) (de_one (de_mut (df_lst (da_cons de_int da_nil)))))) (dss_cons (ds_for PassesOwn.never rfl (di_enum rfl T.fr_enumerate (de_sl (de_var 0) (do_some (de_var 1)) (do_some de_int))) (dn_tup rfl (dns_cons (dn_name (i := 3) sc.nd rfl (Or.inl rfl)) (dns_cons (dn_name (i := 4) sc.nd rfl (Or.inl rfl)) dns_nil)) (lenN_cons (lenN_cons lenN_nil))) (dss_cons (ds_set (i := 5) sc.nd rfl (Or.inl rfl) (de_bin op_modN o_mod (de_callTy call_int1 c_int rfl T.fr_int bt_int (da_cons (de_var 3) da_nil)) (de_var 1))) (dss_one (ds_asgG (de_bin (op_add.or op_catA) o_add (de_ix (de_var 2) (de_var 5) fun _ _ => rfl) (de_bin (op_mul.or op_mulT) o_mulA (de_var 4) (de_bin (op_add.or op_catA) o_add (de_var 3) de_int))) (dg_sub (de_var 2) (de_var 5)))))) (dss_one (ds_ret (de_var 2))))))
theorem sc__law_of : FnScope ["_law_tin", "_law_goods_so"] ["_law_tin", "_law_goods_so"] (defScope (topS 70)) := ⟨rfl, rfl, rfl, by decide +kernel, rfl, by decide +kernel, by decide +kernel⟩
theorem kn__law_of {P : Program} {w : World} {K : PySem.W.Frag} {mg : Str → Option Value} {base : Heap} (T : Top K mg) : Kn P w K mg base 2 "_law_of" ["_law_tin", "_law_goods_so"] g__law_of := by
  obtain ⟨fd, F⟩ := T.says.def_ 50 (d := dD__law_of) rfl
  exact kn_of (N := ["_law_tin", "_law_goods_so"]) (m := m__law_of) F (T.glo 50) sc__law_of (F.bindsN fun _ _ _ _ _ _ us hl => match us, hl with | [_, _], _ => rfl) (fun cdv A outer s H E hr => have sc := sc__law_of; have hu := hu_of hr; have hv := hv_of hr; (dss_one (ds_ret (de_ix (de_var 1) (de_call ((kn__law_take T).mono (by omega)) hr rfl (da_cons (de_var 0) (da_cons (de_callB call_lenA c_len rfl T.fr_len bt_len (da_cons (de_var 1) da_nil)) da_nil)) (lenA_cons (lenA_cons lenA_nil))) fun _ _ => rfl))))
theorem sc__law_pick : FnScope ["_law_tin", "_law_goods_so", "_law_count_so", "_law_pool_so", "_law_found", "_law_lap_here"] ["_law_tin", "_law_goods_so", "_law_count_so"] (defScope (topS 71)) := ⟨rfl, rfl, rfl, by decide +kernel, rfl, by decide +kernel, by decide +kernel⟩
theorem kn__law_pick {P : Program} {w : World} {K : PySem.W.Frag} {mg : Str → Option Value} {base : Heap} (T : Top K mg) : Kn P w K mg base 2 "_law_pick" ["_law_tin", "_law_goods_so", "_law_count_so"] g__law_pick := by
  obtain ⟨fd, F⟩ := T.says.def_ 51 (d := dD__law_pick) rfl
  exact Kn.trimG (kn_of (N := ["_law_tin", "_law_goods_so", "_law_count_so", "_law_pool_so", "_law_found", "_law_lap_here"]) (m := m__law_pick) F (T.glo 51) sc__law_pick (F.bindsN fun _ _ _ _ _ _ us hl => match us, hl with | [_, _, _], _ => rfl) (fun cdv A outer s H E hr => have sc := sc__law_pick; have hu := hu_of hr; have hv := hv_of hr; (dss_cons (ds_par (i := 3) (j := 4) rfl sc.nd rfl rfl (by decide) rfl rfl (da_cons (de_mut (df_callTy call_list_of c_list rfl T.fr_list bt_list (da_cons (de_var 1) da_nil))) (da_cons (de_mut (df_lst da_nil)) da_nil)) rfl) (dss_cons (ds_for PassesOwn.never rfl (di_range1 rfl T.fr_range (de_callB (call_min2 rfl) c_min rfl T.fr_min bt_min (da_cons (de_callTy call_int1 c_int rfl T.fr_int bt_int (da_cons (de_var 2) da_nil)) (da_cons (de_callB call_lenA c_len rfl T.fr_len bt_len (da_cons (de_var 3) da_nil)) da_nil)))) (dn_name (i := 5) sc.nd rfl (Or.inl rfl)) (dss_one (ds_expr (de_append (de_var 4) (de_pop (de_var 3) (de_call ((kn__law_take T).mono (by omega)) hr rfl (da_cons (de_var 0) (da_cons (de_callB call_lenA c_len rfl T.fr_len bt_len (da_cons (de_var 3) da_nil)) da_nil)) (lenA_cons (lenA_cons lenA_nil)))))))) (dss_one (ds_ret (de_var 4)))))))
theorem sc__law_lists : FnScope ["_law_matter", "_law_bit"] ["_law_matter"] (defScope (topS 72)) := ⟨rfl, rfl, rfl, by decide +kernel, rfl, by decide +kernel, by decide +kernel⟩
theorem knR__law_lists {P : Program} {w : World} {K : PySem.W.Frag} {mg : Str → Option Value} {base : Heap} (T : Top K mg) : ∀ d, Kn P w K mg base (1 + d) "_law_lists" ["_law_matter"] (gR__law_lists d)
  | 0 => by
    obtain ⟨fd, F⟩ := T.says.def_ 52 (d := dD__law_lists) rfl
    exact ((kn_of (k := 0) F (T.glo 52) sc__law_lists (F.bindsN fun _ _ _ _ _ _ us hl => match us, hl with | [_], _ => rfl) fun cdv A outer s H E hr => dss_never).imp fun ws S r _ h => by cases h)
  | d + 1 => by
    have G0 := knR__law_lists T d (P := P) (w := w) (base := base)
    obtain ⟨fd, F⟩ := T.says.def_ 52 (d := dD__law_lists) rfl
    exact kn_of F (T.glo 52) sc__law_lists (F.bindsN fun _ _ _ _ _ _ us hl => match us, hl with | [_], _ => rfl) fun cdv A outer s H E hr => have sc := sc__law_lists; have hu := hu_of hr; have hv := hv_of hr; have G := G0; have g := gR__law_lists d; (dss_one (ds_ret (de_if (dt_val (de_callB call_isiA c_isi rfl T.fr_isinstance bt_isinstance (da_cons (de_var 0) (da_cons (de_tupTy (da_cons (de_ty (n := .list) rfl T.fr_list bt_list) (da_cons (de_ty (n := .tuple) rfl T.fr_tuple bt_tuple) da_nil))) da_nil)))) (de_imm (df_lc (own := [("_law_bit", 1)]) rfl sc.nd (di_sq (de_var 0)) (blkOk_by (own := [("_law_bit", 1)]) (by kernel_rfl)) (fun s H C cl fp => (dn_name (i := 1) sc.nd rfl (Or.inl rfl))) (fun s H C cl fp => dts_nil) (fun s H C cl fp => (de_call G hr rfl (da_cons (de_var 1) da_nil) (lenA_cons lenA_nil))) (inN_name (by decide)))) (de_var 0))))
theorem kn__law_lists {P : Program} {w : World} {K : PySem.W.Frag} {mg : Str → Option Value} {base : Heap} (T : Top K mg) : Kn P w K mg base 13 "_law_lists" ["_law_matter"] g__law_lists := (knR__law_lists T 12).mono (by decide)
theorem sc__law_same : FnScope ["_law_got", "_law_due", "_law_mine", "_law_its"] ["_law_got", "_law_due"] (defScope (topS 73)) := ⟨rfl, rfl, rfl, by decide +kernel, rfl, by decide +kernel, by decide +kernel⟩
theorem knR__law_same {P : Program} {w : World} {K : PySem.W.Frag} {mg : Str → Option Value} {base : Heap} (T : Top K mg) : ∀ d, Kn P w K mg base (1 + d) "_law_same" ["_law_got", "_law_due"] (gR__law_same d)
  | 0 => by
    obtain ⟨fd, F⟩ := T.says.def_ 53 (d := dD__law_same) rfl
    exact ((kn_of (k := 0) F (T.glo 53) sc__law_same (F.bindsN fun _ _ _ _ _ _ us hl => match us, hl with | [_, _], _ => rfl) fun cdv A outer s H E hr => dss_never).imp fun ws S r _ h => by cases h)
  | d + 1 => by
    have G0 := knR__law_same T d (P := P) (w := w) (base := base)
    obtain ⟨fd, F⟩ := T.says.def_ 53 (d := dD__law_same) rfl
    exact kn_of F (T.glo 53) sc__law_same (F.bindsN fun _ _ _ _ _ _ us hl => match us, hl with | [_, _], _ => rfl) fun cdv A outer s H E hr => have sc := sc__law_same; have hu := hu_of hr; have hv := hv_of hr; have G := G0; have g := gR__law_same d; (dss_cons (ds_if (dt_val (de_callB call_isiA c_isi rfl T.fr_isinstance bt_isinstance (da_cons (de_var 1) (da_cons (de_tupTy (da_cons (de_ty (n := .list) rfl T.fr_list bt_list) (da_cons (de_ty (n := .tuple) rfl T.fr_tuple bt_tuple) da_nil))) da_nil)))) (dss_cons (ds_if (dt_w (dw_or (dt_cmp (op_neD hv) o_ne (de_callB call_isiA c_isi rfl T.fr_isinstance bt_isinstance (da_cons (de_var 0) (da_cons (de_ty (n := .list) rfl T.fr_list bt_list) da_nil))) (de_callB call_isiA c_isi rfl T.fr_isinstance bt_isinstance (da_cons (de_var 1) (da_cons (de_ty (n := .list) rfl T.fr_list bt_list) da_nil))) rfl) (dw_or1 (dt_cmp (op_neD hv) o_ne (de_callB call_isiA c_isi rfl T.fr_isinstance bt_isinstance (da_cons (de_var 0) (da_cons (de_ty (n := .tuple) rfl T.fr_tuple bt_tuple) da_nil))) (de_callB call_isiA c_isi rfl T.fr_isinstance bt_isinstance (da_cons (de_var 1) (da_cons (de_ty (n := .tuple) rfl T.fr_tuple bt_tuple) da_nil))) rfl)))) (dss_one (ds_ret de_bl)) dss_nil) (dss_one (ds_ret (de_and (de_cmp (op_eqD hv) o_eq (de_callB call_lenA c_len rfl T.fr_len bt_len (da_cons (de_var 0) da_nil)) (de_callB call_lenA c_len rfl T.fr_len bt_len (da_cons (de_var 1) da_nil)) rfl) (de_one (de_callB (cr_all rfl) c_all rfl T.fr_all bt_all (da_cons (de_imm (df_lc (own := [("_law_mine", 2), ("_law_its", 3)]) rfl sc.nd (di_zip rfl T.fr_zip (de_var 0) (de_var 1)) (blkOk_by (own := [("_law_mine", 2), ("_law_its", 3)]) (by kernel_rfl)) (fun s H C cl fp => (dn_tup rfl (dns_cons (dn_name (i := 2) sc.nd rfl (Or.inl rfl)) (dns_cons (dn_name (i := 3) sc.nd rfl (Or.inl rfl)) dns_nil)) (lenN_cons (lenN_cons lenN_nil)))) (fun s H C cl fp => dts_nil) (fun s H C cl fp => (de_call G hr rfl (da_cons (de_var 2) (da_cons (de_var 3) da_nil)) (lenA_cons (lenA_cons lenA_nil)))) (inN_tup (inN_cons (inN_name (by decide)) (inN_cons (inN_name (by decide)) inN_nil))))) da_nil))))))) dss_nil) (dss_cons (ds_if (dt_w (dw_or (dt_cmp op_isN o_is (de_var 1) de_non rfl) (dw_or1 (dt_val (de_callB call_isiA c_isi rfl T.fr_isinstance bt_isinstance (da_cons (de_var 1) (da_cons (de_tupTy (da_cons (de_ty (n := .bool) rfl T.fr_bool bt_bool) (da_cons (de_ty (n := .str) rfl T.fr_str bt_str) da_nil))) da_nil))))))) (dss_one (ds_ret (de_and (de_cmp (op_eqD hv) o_eq (de_var 0) (de_var 1) rfl) (de_and (de_cmp (op_eqD hv) o_eq (de_callB call_isiA c_isi rfl T.fr_isinstance bt_isinstance (da_cons (de_var 0) (da_cons (de_ty (n := .bool) rfl T.fr_bool bt_bool) da_nil))) (de_callB call_isiA c_isi rfl T.fr_isinstance bt_isinstance (da_cons (de_var 1) (da_cons (de_ty (n := .bool) rfl T.fr_bool bt_bool) da_nil))) rfl) (de_one (de_cmp (op_eqD hv) o_eq (de_cmp op_isN o_is (de_var 0) de_non rfl) (de_cmp op_isN o_is (de_var 1) de_non rfl) rfl)))))) dss_nil) (dss_one (ds_ret (de_and (de_callB call_isiA c_isi rfl T.fr_isinstance bt_isinstance (da_cons (de_var 0) (da_cons (de_ty (n := .int) rfl T.fr_int bt_int) da_nil))) (de_and (de_not (de_callB call_isiA c_isi rfl T.fr_isinstance bt_isinstance (da_cons (de_var 0) (da_cons (de_ty (n := .bool) rfl T.fr_bool bt_bool) da_nil)))) (de_one (de_cmp (op_eqD hv) o_eq (de_var 0) (de_var 1) rfl))))))))
theorem kn__law_same {P : Program} {w : World} {K : PySem.W.Frag} {mg : Str → Option Value} {base : Heap} (T : Top K mg) : Kn P w K mg base 13 "_law_same" ["_law_got", "_law_due"] g__law_same := (knR__law_same T 12).mono (by decide)
theorem sc__law_lap : FnScope ["_law_form", "_law_n"] ["_law_form", "_law_n"] (defScope (topS 74)) := ⟨rfl, rfl, rfl, by decide +kernel, rfl, by decide +kernel, by decide +kernel⟩
theorem kn__law_lap {P : Program} {w : World} {K : PySem.W.Frag} {mg : Str → Option Value} {base : Heap} (T : Top K mg) : Kn P w K mg base 1 "_law_lap" ["_law_form", "_law_n"] g__law_lap := by
  obtain ⟨fd, F⟩ := T.says.def_ 54 (d := dD__law_lap) rfl
  exact kn_of (N := ["_law_form", "_law_n"]) (m := m__law_lap) F (T.glo 54) sc__law_lap (F.bindsN fun _ _ _ _ _ _ us hl => match us, hl with | [_, _], _ => rfl) (fun cdv A outer s H E hr => have sc := sc__law_lap; have hu := hu_of hr; have hv := hv_of hr; (dss_one (ds_ret (de_bin op_modN o_mod (de_bin op_fdivN o_div (de_var 1) (de_ix (de_var 0) de_int fun _ _ => rfl)) (de_ix (de_var 0) de_int fun _ _ => rfl)))))
theorem sc__law_shows : FnScope ["_law_form", "_law_face_here", "_law_n", "_law_own"] ["_law_form", "_law_face_here", "_law_n"] (defScope (topS 75)) := ⟨rfl, rfl, rfl, by decide +kernel, rfl, by decide +kernel, by decide +kernel⟩
theorem kn__law_shows {P : Program} {w : World} {K : PySem.W.Frag} {mg : Str → Option Value} {base : Heap} (T : Top K mg) : Kn P w K mg base 2 "_law_shows" ["_law_form", "_law_face_here", "_law_n"] g__law_shows := by
  obtain ⟨fd, F⟩ := T.says.def_ 55 (d := dD__law_shows) rfl
  exact kn_of (N := ["_law_form", "_law_face_here", "_law_n", "_law_own"]) (m := m__law_shows) F (T.glo 55) sc__law_shows (F.bindsN fun _ _ _ _ _ _ us hl => match us, hl with | [_, _, _], _ => rfl) (fun cdv A outer s H E hr => have sc := sc__law_shows; have hu := hu_of hr; have hv := hv_of hr; (dss_cons (ds_set (i := 3) sc.nd rfl (Or.inl rfl) (de_ix (de_var 1) (de_bin op_modN o_mod (de_callTy call_int1 c_int rfl T.fr_int bt_int (da_cons (de_var 2) da_nil)) (de_ix (de_var 0) de_int fun _ _ => rfl)) fun _ _ => rfl)) (dss_one (ds_ret (de_and (de_cmp (op_neD hv) o_ne (de_var 3) (de_tup (da_cons de_str da_nil)) rfl) (de_one (de_cmp (op_eqD hv) o_eq (de_ix (de_var 3) de_int fun _ _ => rfl) (de_call ((kn__law_lap T).mono (by omega)) hr rfl (da_cons (de_var 0) (da_cons (de_var 2) da_nil)) (lenA_cons (lenA_cons lenA_nil))) rfl)))))))
theorem sc__law_wholes : FnScope ["_law_form", "_law_face_here", "_law_wide_so", "_law_turn_so", "_law_found", "_law_n", "_law_j"] ["_law_form", "_law_face_here"] (defScope (topS 76)) := ⟨rfl, rfl, rfl, by decide +kernel, rfl, by decide +kernel, by decide +kernel⟩
theorem kn__law_wholes {P : Program} {w : World} {K : PySem.W.Frag} {mg : Str → Option Value} {base : Heap} (T : Top K mg) : Kn P w K mg base 3 "_law_wholes" ["_law_form", "_law_face_here"] g__law_wholes := by
  obtain ⟨fd, F⟩ := T.says.def_ 56 (d := dD__law_wholes) rfl
  exact Kn.trimG (kn_of (N := ["_law_form", "_law_face_here", "_law_wide_so", "_law_turn_so", "_law_found", "_law_n", "_law_j"]) (m := m__law_wholes) F (T.glo 56) sc__law_wholes (F.bindsN fun _ _ _ _ _ _ us hl => match us, hl with | [_, _], _ => rfl) (fun cdv A outer s H E hr => have sc := sc__law_wholes; have hu := hu_of hr; have hv := hv_of hr; (dss_cons (ds_par (i := 2) (j := 3) rfl sc.nd rfl rfl (by decide) rfl rfl (da_cons (de_bin op_sub o_sub (de_ix (de_var 0) de_int fun _ _ => rfl) (de_ix (de_var 0) de_int fun _ _ => rfl)) (da_cons (de_bin (op_mul.or op_mulT) o_mulA (de_ix (de_var 0) de_int fun _ _ => rfl) (de_ix (de_var 0) de_int fun _ _ => rfl)) da_nil)) rfl) (dss_cons (ds_set (i := 4) sc.nd rfl (Or.inl rfl) (de_mut (df_lst da_nil))) (dss_cons (ds_for PassesOwn.never rfl (di_range1 rfl T.fr_range (de_var 3)) (dn_name (i := 5) sc.nd rfl (Or.inr rfl)) (dss_one (ds_if (dt_cmp (op_eqD hv) o_eq (de_imm (df_lc (own := [("_law_j", 6)]) rfl sc.nd (di_range2 rfl T.fr_range de_int (de_bin (op_add.or op_catA) o_add (de_var 2) de_int)) (blkOk_by (own := [("_law_j", 6)]) (by kernel_rfl)) (fun s H C cl fp => (dn_name (i := 6) sc.nd rfl (Or.inl rfl))) (fun s H C cl fp => (dts_one (dt_not (dt_val (de_call ((kn__law_shows T).mono (by omega)) hr rfl (da_cons (de_var 0) (da_cons (de_var 1) (da_cons (de_bin op_sub o_sub (de_var 5) (de_var 6)) da_nil))) (lenA_cons (lenA_cons (lenA_cons lenA_nil)))))))) (fun s H C cl fp => (de_var 6)) (inN_name (by decide)))) (de_imm (df_lst da_nil)) rfl) (dss_one (ds_expr (de_append (de_var 4) (de_var 5)))) dss_nil))) (dss_one (ds_ret (de_var 4))))))))
theorem sc__law_answer : FnScope ["_law_form", "_law_face_here", "_law_wholes_so", "_law_turn_so", "_law_found", "_law_k", "_law_own", "_law_later_so"] ["_law_form", "_law_face_here"] (defScope (topS 77)) := ⟨rfl, rfl, rfl, by decide +kernel, rfl, by decide +kernel, by decide +kernel⟩
theorem kn__law_answer {P : Program} {w : World} {K : PySem.W.Frag} {mg : Str → Option Value} {base : Heap} (T : Top K mg) : Kn P w K mg base 4 "_law_answer" ["_law_form", "_law_face_here"] g__law_answer := by
  obtain ⟨fd, F⟩ := T.says.def_ 57 (d := dD__law_answer) rfl
  exact Kn.trimG (kn_of (N := ["_law_form", "_law_face_here", "_law_wholes_so", "_law_turn_so", "_law_found", "_law_k", "_law_own", "_law_later_so"]) (m := m__law_answer) F (T.glo 57) sc__law_answer (F.bindsN fun _ _ _ _ _ _ us hl => match us, hl with | [_, _], _ => rfl) (fun cdv A outer s H E hr => have sc := sc__law_answer; have hu := hu_of hr; have hv := hv_of hr; (dss_cons (ds_par (i := 2) (j := 3) rfl sc.nd rfl rfl (by decide) rfl rfl (da_cons (de_call ((kn__law_wholes T).mono (by omega)) hr rfl (da_cons (de_var 0) (da_cons (de_var 1) da_nil)) (lenA_cons (lenA_cons lenA_nil))) (da_cons (de_bin (op_mul.or op_mulT) o_mulA (de_ix (de_var 0) de_int fun _ _ => rfl) (de_ix (de_var 0) de_int fun _ _ => rfl)) da_nil)) rfl) (dss_cons (ds_set (i := 4) sc.nd rfl (Or.inl rfl) (de_mut (df_lst da_nil))) (dss_cons (ds_for PassesOwn.never rfl (di_enum rfl T.fr_enumerate (de_var 2)) (dn_tup rfl (dns_cons (dn_name (i := 5) sc.nd rfl (Or.inl rfl)) (dns_cons (dn_name (i := 6) sc.nd rfl (Or.inl rfl)) dns_nil)) (lenN_cons (lenN_cons lenN_nil))) (dss_cons (ds_set (i := 7) sc.nd rfl (Or.inl rfl) (de_if (dt_cmp op_lt o_int (de_bin (op_add.or op_catA) o_add (de_var 5) de_int) (de_callB call_lenA c_len rfl T.fr_len bt_len (da_cons (de_var 2) da_nil)) rfl) (de_ix (de_var 2) (de_bin (op_add.or op_catA) o_add (de_var 5) de_int) fun _ _ => rfl) (de_bin (op_add.or op_catA) o_add (de_ix (de_var 2) de_int fun _ _ => rfl) (de_var 3)))) (dss_one (ds_if (dt_cmp op_gt o_int (de_bin op_sub o_sub (de_var 7) (de_var 6)) (de_ix (de_var 0) de_int fun _ _ => rfl) rfl) (dss_one (ds_expr (de_append (de_var 4) (de_var 6)))) dss_nil)))) (dss_one (ds_ret (de_if (dt_cmp (op_eqD hv) o_eq (de_callB call_lenA c_len rfl T.fr_len bt_len (da_cons (de_var 4) da_nil)) de_int rfl) (de_ix (de_var 4) de_int fun _ _ => rfl) de_non))))))))
theorem sc__law_blank : FnScope [] [] (defScope (topS 78)) := ⟨rfl, rfl, rfl, by decide +kernel, rfl, by decide +kernel, by decide +kernel⟩
theorem kn__law_blank {P : Program} {w : World} {K : PySem.W.Frag} {mg : Str → Option Value} {base : Heap} (T : Top K mg) : Kn P w K mg base 1 "_law_blank" [] g__law_blank := by
  obtain ⟨fd, F⟩ := T.says.def_ 58 (d := dD__law_blank) rfl
  exact kn_of (N := []) (m := m__law_blank) F (T.glo 58) sc__law_blank (F.bindsN fun _ _ _ _ _ _ us hl => match us, hl with | [], _ => rfl) (fun cdv A outer s H E hr => have sc := sc__law_blank; have hu := hu_of hr; have hv := hv_of hr; (dss_one (ds_ret (de_tup (da_cons de_str da_nil)))))
theorem sc__law_face : FnScope ["_law_form"] ["_law_form"] (defScope (topS 79)) := ⟨rfl, rfl, rfl, by decide +kernel, rfl, by decide +kernel, by decide +kernel⟩
theorem kn__law_face {P : Program} {w : World} {K : PySem.W.Frag} {mg : Str → Option Value} {base : Heap} (T : Top K mg) : Kn P w K mg base 2 "_law_face" ["_law_form"] g__law_face := by
  obtain ⟨fd, F⟩ := T.says.def_ 59 (d := dD__law_face) rfl
  exact kn_of (N := ["_law_form"]) (m := m__law_face) F (T.glo 59) sc__law_face (F.bindsN fun _ _ _ _ _ _ us hl => match us, hl with | [_], _ => rfl) (fun cdv A outer s H E hr => have sc := sc__law_face; have hu := hu_of hr; have hv := hv_of hr; (dss_one (ds_ret (de_bin (op_mul.or op_mulT) o_mulA (de_tup (da_cons (de_tup (da_cons (de_bin op_sub o_sub (de_ix (de_var 0) de_int fun _ _ => rfl) de_int) (da_cons (de_call0 ((kn__law_blank T).mono (by omega)) hr rfl) da_nil))) da_nil)) (de_ix (de_var 0) de_int fun _ _ => rfl)))))
theorem sc__law_gear : FnScope ["_law_form"] ["_law_form"] (defScope (topS 80)) := ⟨rfl, rfl, rfl, by decide +kernel, rfl, by decide +kernel, by decide +kernel⟩
theorem kn__law_gear {P : Program} {w : World} {K : PySem.W.Frag} {mg : Str → Option Value} {base : Heap} (T : Top K mg) : Kn P w K mg base 3 "_law_gear" ["_law_form"] g__law_gear := by
  obtain ⟨fd, F⟩ := T.says.def_ 60 (d := dD__law_gear) rfl
  exact kn_of (N := ["_law_form"]) (m := m__law_gear) F (T.glo 60) sc__law_gear (F.bindsN fun _ _ _ _ _ _ us hl => match us, hl with | [_], _ => rfl) (fun cdv A outer s H E hr => have sc := sc__law_gear; have hu := hu_of hr; have hv := hv_of hr; (dss_one (ds_ret (de_mut (df_lst (da_cons (de_var 0) (da_cons (de_mut (df_callTy call_list_of c_list rfl T.fr_list bt_list (da_cons (de_call ((kn__law_face T).mono (by omega)) hr rfl (da_cons (de_var 0) da_nil) (lenA_cons lenA_nil)) da_nil))) (da_cons (de_mut (df_lst da_nil)) (da_cons de_int (da_cons (de_imm (df_lst da_nil)) (da_cons de_int (da_cons (de_imm (df_lst da_nil)) (da_cons de_bl da_nil)))))))))))))
theorem sc__law_stand : FnScope ["_law_gear_here", "_law_k", "_law_own"] ["_law_gear_here"] (defScope (topS 81)) := ⟨rfl, rfl, rfl, by decide +kernel, rfl, by decide +kernel, by decide +kernel⟩
theorem kn__law_stand {P : Program} {w : World} {K : PySem.W.Frag} {mg : Str → Option Value} {base : Heap} (T : Top K mg) : Kn P w K mg base 1 "_law_stand" ["_law_gear_here"] g__law_stand := by
  obtain ⟨fd, F⟩ := T.says.def_ 61 (d := dD__law_stand) rfl
  exact kn_of (N := ["_law_gear_here", "_law_k", "_law_own"]) (m := m__law_stand) F (T.glo 61) sc__law_stand (F.bindsN fun _ _ _ _ _ _ us hl => match us, hl with | [_], _ => rfl) (fun cdv A outer s H E hr => have sc := sc__law_stand; have hu := hu_of hr; have hv := hv_of hr; (dss_cons (ds_for PassesOwn.never rfl (di_sq (de_ix (de_var 0) de_int fun _ _ => rfl)) (dn_tup rfl (dns_cons (dn_name (i := 1) sc.nd rfl (Or.inl rfl)) (dns_cons (dn_name (i := 2) sc.nd rfl (Or.inl rfl)) dns_nil)) (lenN_cons (lenN_cons lenN_nil))) (dss_one (ds_asgG (de_var 2) (dg_sub (de_ix (de_var 0) de_int fun _ _ => rfl) (de_var 1))))) (dss_one (ds_asgT rfl (da_cons (de_mut (df_lst da_nil)) (da_cons (de_ix (de_var 0) de_int fun _ _ => rfl) da_nil)) (dgs_cons (dg_sub (de_var 0) de_int) (dgs_cons (dg_sub (de_var 0) de_int) dgs_nil)) (lenA_cons (lenA_cons lenA_nil))))))
theorem sc__law_write : FnScope ["_law_gear_here", "_law_note_here", "_law_form"] ["_law_gear_here", "_law_note_here"] (defScope (topS 82)) := ⟨rfl, rfl, rfl, by decide +kernel, rfl, by decide +kernel, by decide +kernel⟩
theorem kn__law_write {P : Program} {w : World} {K : PySem.W.Frag} {mg : Str → Option Value} {base : Heap} (T : Top K mg) : Kn P w K mg base 2 "_law_write" ["_law_gear_here", "_law_note_here"] g__law_write := by
  obtain ⟨fd, F⟩ := T.says.def_ 62 (d := dD__law_write) rfl
  exact kn_of (N := ["_law_gear_here", "_law_note_here", "_law_form"]) (m := m__law_write) F (T.glo 62) sc__law_write (F.bindsN fun _ _ _ _ _ _ us hl => match us, hl with | [_, _], _ => rfl) (fun cdv A outer s H E hr => have sc := sc__law_write; have hu := hu_of hr; have hv := hv_of hr; (dss_cons (ds_set (i := 2) sc.nd rfl (Or.inl rfl) (de_ix (de_var 0) de_int fun _ _ => rfl)) (dss_cons (ds_if (dt_cmp (op_eqD hv) o_eq (de_callB call_lenA c_len rfl T.fr_len bt_len (da_cons (de_ix (de_var 0) de_int fun _ _ => rfl) da_nil)) (de_ix (de_var 2) de_int fun _ _ => rfl) rfl) (dss_one (ds_expr (de_call ((kn__law_stand T).mono (by omega)) hr rfl (da_cons (de_var 0) da_nil) (lenA_cons lenA_nil)))) dss_nil) (dss_cons (ds_expr (de_append (de_ix (de_var 0) de_int fun _ _ => rfl) (de_tup (da_cons (de_bin op_modN o_mod (de_callTy call_int1 c_int rfl T.fr_int bt_int (da_cons (de_ix (de_var 0) de_int fun _ _ => rfl) da_nil)) (de_ix (de_var 2) de_int fun _ _ => rfl)) (da_cons (de_tup (da_cons (de_call ((kn__law_lap T).mono (by omega)) hr rfl (da_cons (de_var 2) (da_cons (de_ix (de_var 0) de_int fun _ _ => rfl) da_nil)) (lenA_cons (lenA_cons lenA_nil))) (da_cons (de_var 1) da_nil))) da_nil))))) (dss_one (ds_asgT rfl (da_cons (de_bin (op_add.or op_catA) o_add (de_ix (de_var 0) de_int fun _ _ => rfl) de_int) (da_cons (de_imm (df_cat (de_ix (de_var 0) de_int fun _ _ => rfl) (de_imm (df_lst (da_cons (de_var 1) da_nil))))) da_nil)) (dgs_cons (dg_sub (de_var 0) de_int) (dgs_cons (dg_sub (de_var 0) de_int) dgs_nil)) (lenA_cons (lenA_cons lenA_nil))))))))
theorem sc__law_fates : FnScope ["_law_tin", "_law_many_so", "_law_lap_here"] ["_law_tin", "_law_many_so"] (defScope (topS 83)) := ⟨rfl, rfl, rfl, by decide +kernel, rfl, by decide +kernel, by decide +kernel⟩
theorem kn__law_fates {P : Program} {w : World} {K : PySem.W.Frag} {mg : Str → Option Value} {base : Heap} (T : Top K mg) : Kn P w K mg base 3 "_law_fates" ["_law_tin", "_law_many_so"] g__law_fates := by
  obtain ⟨fd, F⟩ := T.says.def_ 63 (d := dD__law_fates) rfl
  exact kn_of (N := ["_law_tin", "_law_many_so", "_law_lap_here"]) (m := m__law_fates) F (T.glo 63) sc__law_fates (F.bindsN fun _ _ _ _ _ _ us hl => match us, hl with | [_, _], _ => rfl) (fun cdv A outer s H E hr => have sc := sc__law_fates; have hu := hu_of hr; have hv := hv_of hr; (dss_one (ds_ret (de_callTy call_tuple_of c_tuple rfl T.fr_tuple bt_tuple (da_cons (de_imm (df_lc (own := [("_law_lap_here", 2)]) rfl sc.nd (di_range1 rfl T.fr_range (de_var 1)) (blkOk_by (own := [("_law_lap_here", 2)]) (by kernel_rfl)) (fun s H C cl fp => (dn_name (i := 2) sc.nd rfl (Or.inl rfl))) (fun s H C cl fp => dts_nil) (fun s H C cl fp => (de_call ((kn__law_of T).mono (by omega)) hr rfl (da_cons (de_var 0) (da_cons (de_imm (df_lst (da_cons de_str (da_cons de_str (da_cons de_str da_nil))))) da_nil)) (lenA_cons (lenA_cons lenA_nil)))) (inN_name (by decide)))) da_nil)))))
theorem sc__law_fallen : FnScope ["_law_cells_so", "_law_flight_so", "_law_fates_so", "_law_found", "_law_own", "_law_its"] ["_law_cells_so", "_law_flight_so", "_law_fates_so"] (defScope (topS 84)) := ⟨rfl, rfl, rfl, by decide +kernel, rfl, by decide +kernel, by decide +kernel⟩
theorem kn__law_fallen {P : Program} {w : World} {K : PySem.W.Frag} {mg : Str → Option Value} {base : Heap} (T : Top K mg) : Kn P w K mg base 1 "_law_fallen" ["_law_cells_so", "_law_flight_so", "_law_fates_so"] g__law_fallen := by
  obtain ⟨fd, F⟩ := T.says.def_ 64 (d := dD__law_fallen) rfl
  exact kn_of (N := ["_law_cells_so", "_law_flight_so", "_law_fates_so", "_law_found", "_law_own", "_law_its"]) (m := m__law_fallen) F (T.glo 64) sc__law_fallen (F.bindsN fun _ _ _ _ _ _ us hl => match us, hl with | [_, _, _], _ => rfl) (fun cdv A outer s H E hr => have sc := sc__law_fallen; have hu := hu_of hr; have hv := hv_of hr; (dss_cons (ds_set (i := 3) sc.nd rfl (Or.inl rfl) (de_mut (df_callTy call_list_of c_list rfl T.fr_list bt_list (da_cons (de_var 0) da_nil)))) (dss_cons (ds_for PassesOwn.never rfl (di_zip rfl T.fr_zip (de_var 1) (de_var 2)) (dn_tup rfl (dns_cons (dn_name (i := 4) sc.nd rfl (Or.inl rfl)) (dns_cons (dn_name (i := 5) sc.nd rfl (Or.inl rfl)) dns_nil)) (lenN_cons (lenN_cons lenN_nil))) (dss_one (ds_if (dt_cmp (op_neD hv) o_ne (de_var 5) de_str rfl) (dss_one (ds_asgG (de_if (dt_cmp (op_eqD hv) o_eq (de_var 5) de_str rfl) (de_ix (de_var 4) de_int fun _ _ => rfl) (de_tup (da_cons de_str da_nil))) (dg_sub (de_var 3) (de_ix (de_var 4) de_int fun _ _ => rfl)))) dss_nil))) (dss_one (ds_ret (de_var 3))))))
theorem sc__law_cut : FnScope ["_law_gear_here", "_law_fates_so"] ["_law_gear_here", "_law_fates_so"] (defScope (topS 85)) := ⟨rfl, rfl, rfl, by decide +kernel, rfl, by decide +kernel, by decide +kernel⟩
theorem kn__law_cut {P : Program} {w : World} {K : PySem.W.Frag} {mg : Str → Option Value} {base : Heap} (T : Top K mg) : Kn P w K mg base 2 "_law_cut" ["_law_gear_here", "_law_fates_so"] g__law_cut := by
  obtain ⟨fd, F⟩ := T.says.def_ 65 (d := dD__law_cut) rfl
  exact kn_of (N := ["_law_gear_here", "_law_fates_so"]) (m := m__law_cut) F (T.glo 65) sc__law_cut (F.bindsN fun _ _ _ _ _ _ us hl => match us, hl with | [_, _], _ => rfl) (fun cdv A outer s H E hr => have sc := sc__law_cut; have hu := hu_of hr; have hv := hv_of hr; (dss_one (ds_asgT rfl (da_cons (de_call ((kn__law_fallen T).mono (by omega)) hr rfl (da_cons (de_ix (de_var 0) de_int fun _ _ => rfl) (da_cons (de_ix (de_var 0) de_int fun _ _ => rfl) (da_cons (de_var 1) da_nil))) (lenA_cons (lenA_cons (lenA_cons lenA_nil)))) (da_cons (de_mut (df_lst da_nil)) (da_cons de_bl da_nil))) (dgs_cons (dg_sub (de_var 0) de_int) (dgs_cons (dg_sub (de_var 0) de_int) (dgs_cons (dg_sub (de_var 0) de_int) dgs_nil))) (lenA_cons (lenA_cons (lenA_cons lenA_nil))))))
theorem sc__law_mending : FnScope ["_law_form", "_law_face_here", "_law_n", "_law_found", "_law_j", "_law_k", "_law_elder_so"] ["_law_form", "_law_face_here"] (defScope (topS 86)) := ⟨rfl, rfl, rfl, by decide +kernel, rfl, by decide +kernel, by decide +kernel⟩
theorem kn__law_mending {P : Program} {w : World} {K : PySem.W.Frag} {mg : Str → Option Value} {base : Heap} (T : Top K mg) : Kn P w K mg base 5 "_law_mending" ["_law_form", "_law_face_here"] g__law_mending := by
  obtain ⟨fd, F⟩ := T.says.def_ 66 (d := dD__law_mending) rfl
  exact Kn.trimG (kn_of (N := ["_law_form", "_law_face_here", "_law_n", "_law_found", "_law_j", "_law_k", "_law_elder_so"]) (m := m__law_mending) F (T.glo 66) sc__law_mending (F.bindsN fun _ _ _ _ _ _ us hl => match us, hl with | [_, _], _ => rfl) (fun cdv A outer s H E hr => have sc := sc__law_mending; have hu := hu_of hr; have hv := hv_of hr; (dss_cons (ds_par (i := 2) (j := 3) rfl sc.nd rfl rfl (by decide) rfl rfl (da_cons (de_call ((kn__law_answer T).mono (by omega)) hr rfl (da_cons (de_var 0) (da_cons (de_var 1) da_nil)) (lenA_cons (lenA_cons lenA_nil))) (da_cons (de_mut (df_lst da_nil)) da_nil)) rfl) (dss_cons (ds_for PassesOwn.never rfl (di_range1 rfl T.fr_range (de_ix (de_var 0) de_int fun _ _ => rfl)) (dn_name (i := 4) sc.nd rfl (Or.inl rfl)) (dss_cons (ds_par (i := 5) (j := 6) rfl sc.nd rfl rfl (by decide) rfl rfl (da_cons (de_bin op_modN o_mod (de_callTy call_int1 c_int rfl T.fr_int bt_int (da_cons (de_bin (op_add.or op_catA) o_add (de_var 2) (de_var 4)) da_nil)) (de_ix (de_var 0) de_int fun _ _ => rfl)) (da_cons (de_bin op_sub o_sub (de_bin (op_add.or op_catA) o_add (de_var 2) (de_var 4)) (de_ix (de_var 0) de_int fun _ _ => rfl)) da_nil)) rfl) (dss_one (ds_if (dt_w (dw_and (dt_cmp (op_neD hv) o_ne (de_ix (de_var 1) (de_var 5) fun _ _ => rfl) (de_tup (da_cons de_str da_nil)) rfl) (dw_and1 (dt_not (dt_val (de_call ((kn__law_shows T).mono (by omega)) hr rfl (da_cons (de_var 0) (da_cons (de_var 1) (da_cons (de_var 6) da_nil))) (lenA_cons (lenA_cons (lenA_cons lenA_nil))))))))) (dss_one (ds_expr (de_append (de_var 3) (de_tup (da_cons (de_var 5) (da_cons (de_tup (da_cons (de_call ((kn__law_lap T).mono (by omega)) hr rfl (da_cons (de_var 0) (da_cons (de_var 6) da_nil)) (lenA_cons (lenA_cons lenA_nil))) (da_cons (de_call0 ((kn__law_blank T).mono (by omega)) hr rfl) da_nil))) da_nil)))))) dss_nil)))) (dss_one (ds_ret (de_var 3)))))))
theorem sc__law_mend : FnScope ["_law_gear_here", "_law_many_so", "_law_fates_so"] ["_law_gear_here", "_law_many_so", "_law_fates_so"] (defScope (topS 87)) := ⟨rfl, rfl, rfl, by decide +kernel, rfl, by decide +kernel, by decide +kernel⟩
theorem kn__law_mend {P : Program} {w : World} {K : PySem.W.Frag} {mg : Str → Option Value} {base : Heap} (T : Top K mg) : Kn P w K mg base 6 "_law_mend" ["_law_gear_here", "_law_many_so", "_law_fates_so"] g__law_mend := by
  obtain ⟨fd, F⟩ := T.says.def_ 67 (d := dD__law_mend) rfl
  exact kn_of (N := ["_law_gear_here", "_law_many_so", "_law_fates_so"]) (m := m__law_mend) F (T.glo 67) sc__law_mend (F.bindsN fun _ _ _ _ _ _ us hl => match us, hl with | [_, _, _], _ => rfl) (fun cdv A outer s H E hr => have sc := sc__law_mend; have hu := hu_of hr; have hv := hv_of hr; (dss_one (ds_asgG (de_call ((kn__law_fallen T).mono (by omega)) hr rfl (da_cons (de_ix (de_var 0) de_int fun _ _ => rfl) (da_cons (de_sl (de_call ((kn__law_mending T).mono (by omega)) hr rfl (da_cons (de_ix (de_var 0) de_int fun _ _ => rfl) (da_cons (de_ix (de_var 0) de_int fun _ _ => rfl) da_nil)) (lenA_cons (lenA_cons lenA_nil))) do_none (do_some (de_var 1))) (da_cons (de_var 2) da_nil))) (lenA_cons (lenA_cons (lenA_cons lenA_nil)))) (dg_sub (de_var 0) de_int))))
theorem sc__law_any_form : FnScope ["_law_tin", "_law_most_so", "_law_cells_so"] ["_law_tin", "_law_most_so"] (defScope (topS 88)) := ⟨rfl, rfl, rfl, by decide +kernel, rfl, by decide +kernel, by decide +kernel⟩
theorem kn__law_any_form {P : Program} {w : World} {K : PySem.W.Frag} {mg : Str → Option Value} {base : Heap} (T : Top K mg) : Kn P w K mg base 3 "_law_any_form" ["_law_tin", "_law_most_so"] g__law_any_form := by
  obtain ⟨fd, F⟩ := T.says.def_ 68 (d := dD__law_any_form) rfl
  exact kn_of (N := ["_law_tin", "_law_most_so", "_law_cells_so"]) (m := m__law_any_form) F (T.glo 68) sc__law_any_form (F.bindsN fun _ _ _ _ _ _ us hl => match us, hl with | [_, _], _ => rfl) (fun cdv A outer s H E hr => have sc := sc__law_any_form; have hu := hu_of hr; have hv := hv_of hr; (dss_cons (ds_set (i := 2) sc.nd rfl (Or.inl rfl) (de_bin (op_add.or op_catA) o_add de_int (de_call ((kn__law_take T).mono (by omega)) hr rfl (da_cons (de_var 0) (da_cons (de_bin op_sub o_sub (de_var 1) de_int) da_nil)) (lenA_cons (lenA_cons lenA_nil))))) (dss_one (ds_ret (de_tup (da_cons (de_var 2) (da_cons (de_bin (op_add.or op_catA) o_add de_int (de_call ((kn__law_take T).mono (by omega)) hr rfl (da_cons (de_var 0) (da_cons (de_bin op_sub o_sub (de_var 2) de_int) da_nil)) (lenA_cons (lenA_cons lenA_nil)))) (da_cons (de_call ((kn__law_of T).mono (by omega)) hr rfl (da_cons (de_var 0) (da_cons (de_imm (df_lst (da_cons de_int (da_cons de_int (da_cons de_int (da_cons de_int (da_cons de_int (da_cons de_int da_nil)))))))) da_nil)) (lenA_cons (lenA_cons lenA_nil))) da_nil))))))))
theorem sc__law_note : FnScope ["_law_tin"] ["_law_tin"] (defScope (topS 89)) := ⟨rfl, rfl, rfl, by decide +kernel, rfl, by decide +kernel, by decide +kernel⟩
theorem kn__law_note {P : Program} {w : World} {K : PySem.W.Frag} {mg : Str → Option Value} {base : Heap} (T : Top K mg) : Kn P w K mg base 3 "_law_note" ["_law_tin"] g__law_note := by
  obtain ⟨fd, F⟩ := T.says.def_ 69 (d := dD__law_note) rfl
  exact kn_of (N := ["_law_tin"]) (m := m__law_note) F (T.glo 69) sc__law_note (F.bindsN fun _ _ _ _ _ _ us hl => match us, hl with | [_], _ => rfl) (fun cdv A outer s H E hr => have sc := sc__law_note; have hu := hu_of hr; have hv := hv_of hr; (dss_one (ds_ret (de_call ((kn__law_of T).mono (by omega)) hr rfl (da_cons (de_var 0) (da_cons (de_imm (df_lst (da_cons (de_call0 ((kn__law_blank T).mono (by omega)) hr rfl) (da_cons (de_tup (da_cons de_str (da_cons de_str (da_cons de_str (da_cons de_int (da_cons de_int da_nil)))))) (da_cons (de_tup (da_cons de_str (da_cons de_str (da_cons de_int (da_cons de_int da_nil))))) (da_cons (de_tup (da_cons de_str (da_cons de_str (da_cons de_str (da_cons de_int (da_cons de_int da_nil)))))) (da_cons (de_tup (da_cons de_str (da_cons de_str (da_cons de_int (da_cons de_int da_nil))))) da_nil))))))) da_nil)) (lenA_cons (lenA_cons lenA_nil))))))
theorem sc__law_any_face : FnScope ["_law_tin", "_law_form", "_law_first_so", "_law_wide_so", "_law_found", "_law_n", "_law_kind_so", "_law_its", "_law_own"] ["_law_tin", "_law_form"] (defScope (topS 90)) := ⟨rfl, rfl, rfl, by decide +kernel, rfl, by decide +kernel, by decide +kernel⟩
theorem kn__law_any_face {P : Program} {w : World} {K : PySem.W.Frag} {mg : Str → Option Value} {base : Heap} (T : Top K mg) : Kn P w K mg base 4 "_law_any_face" ["_law_tin", "_law_form"] g__law_any_face := by
  obtain ⟨fd, F⟩ := T.says.def_ 70 (d := dD__law_any_face) rfl
  exact Kn.trimG (kn_of (N := ["_law_tin", "_law_form", "_law_first_so", "_law_wide_so", "_law_found", "_law_n", "_law_kind_so", "_law_its", "_law_own"]) (m := m__law_any_face) F (T.glo 70) sc__law_any_face (F.bindsN fun _ _ _ _ _ _ us hl => match us, hl with | [_, _], _ => rfl) (fun cdv A outer s H E hr => have sc := sc__law_any_face; have hu := hu_of hr; have hv := hv_of hr; (dss_cons (ds_par (i := 2) (j := 3) rfl sc.nd rfl rfl (by decide) rfl rfl (da_cons (de_call ((kn__law_take T).mono (by omega)) hr rfl (da_cons (de_var 0) (da_cons (de_bin (op_mul.or op_mulT) o_mulA (de_ix (de_var 1) de_int fun _ _ => rfl) (de_ix (de_var 1) de_int fun _ _ => rfl)) da_nil)) (lenA_cons (lenA_cons lenA_nil))) (da_cons (de_bin op_sub o_sub (de_ix (de_var 1) de_int fun _ _ => rfl) (de_ix (de_var 1) de_int fun _ _ => rfl)) da_nil)) rfl) (dss_cons (ds_set (i := 4) sc.nd rfl (Or.inl rfl) (de_mut (df_rep (de_imm (df_lst (da_cons (de_tup (da_cons de_str da_nil)) da_nil))) (de_ix (de_var 1) de_int fun _ _ => rfl)))) (dss_cons (ds_for PassesOwn.never rfl (di_range2 rfl T.fr_range (de_bin op_sub o_sub (de_var 2) (de_var 3)) (de_bin (op_add.or op_catA) o_add (de_var 2) (de_ix (de_var 1) de_int fun _ _ => rfl))) (dn_name (i := 5) sc.nd rfl (Or.inl rfl)) (dss_cons (ds_set (i := 6) sc.nd rfl (Or.inl rfl) (de_call ((kn__law_take T).mono (by omega)) hr rfl (da_cons (de_var 0) (da_cons de_int da_nil)) (lenA_cons (lenA_cons lenA_nil)))) (dss_cons (ds_set (i := 7) sc.nd rfl (Or.inl rfl) (de_if (dt_w (dw_or (dt_cmp op_lt o_int (de_var 5) (de_var 2) rfl) (dw_or1 (dt_cmp op_lt o_int (de_var 6) de_int rfl)))) (de_var 5) (de_bin op_sub o_sub (de_var 5) (de_ix (de_var 1) de_int fun _ _ => rfl)))) (dss_cons (ds_set (i := 8) sc.nd rfl (Or.inl rfl) (de_tup (da_cons (de_call ((kn__law_lap T).mono (by omega)) hr rfl (da_cons (de_var 1) (da_cons (de_var 7) da_nil)) (lenA_cons (lenA_cons lenA_nil))) (da_cons (de_call ((kn__law_note T).mono (by omega)) hr rfl (da_cons (de_var 0) da_nil) (lenA_cons lenA_nil)) da_nil)))) (dss_cons (ds_if (dt_cmp (op_eqD hv) o_eq (de_var 6) de_int rfl) (dss_one (ds_set (i := 8) sc.nd rfl (Or.inl rfl) (de_if (dt_cmp (op_eqD hv) o_eq (de_call ((kn__law_take T).mono (by omega)) hr rfl (da_cons (de_var 0) (da_cons de_int da_nil)) (lenA_cons (lenA_cons lenA_nil))) de_int rfl) (de_tup (da_cons (de_call ((kn__law_take T).mono (by omega)) hr rfl (da_cons (de_var 0) (da_cons (de_ix (de_var 1) de_int fun _ _ => rfl) da_nil)) (lenA_cons (lenA_cons lenA_nil))) (da_cons (de_call ((kn__law_note T).mono (by omega)) hr rfl (da_cons (de_var 0) da_nil) (lenA_cons lenA_nil)) da_nil))) (de_var 8)))) dss_nil) (dss_one (ds_if (dt_w (dw_or (dt_cmp (op_neD hv) o_ne (de_var 6) de_int rfl) (dw_or1 (dt_w (dw_and (dt_cmp op_lt o_int (de_var 5) (de_var 2) rfl) (dw_and1 (dt_cmp op_gt o_int (de_call ((kn__law_take T).mono (by omega)) hr rfl (da_cons (de_var 0) (da_cons de_int da_nil)) (lenA_cons (lenA_cons lenA_nil))) de_int rfl))))))) (dss_one (ds_asgG (de_var 8) (dg_sub (de_var 4) (de_bin op_modN o_mod (de_callTy call_int1 c_int rfl T.fr_int bt_int (da_cons (de_var 5) da_nil)) (de_ix (de_var 1) de_int fun _ _ => rfl))))) dss_nil))))))) (dss_one (ds_ret (de_callTy call_tuple_of c_tuple rfl T.fr_tuple bt_tuple (da_cons (de_var 4) da_nil)))))))))
theorem sc__law_bars : FnScope ["_law_form", "_law_face_here", "_law_place_so", "_law_found", "_law_n", "_law_k", "_law_fits_so"] ["_law_form", "_law_face_here", "_law_place_so"] (defScope (topS 91)) := ⟨rfl, rfl, rfl, by decide +kernel, rfl, by decide +kernel, by decide +kernel⟩
theorem kn__law_bars {P : Program} {w : World} {K : PySem.W.Frag} {mg : Str → Option Value} {base : Heap} (T : Top K mg) : Kn P w K mg base 3 "_law_bars" ["_law_form", "_law_face_here", "_law_place_so"] g__law_bars := by
  obtain ⟨fd, F⟩ := T.says.def_ 71 (d := dD__law_bars) rfl
  exact Kn.trimG (kn_of (N := ["_law_form", "_law_face_here", "_law_place_so", "_law_found", "_law_n", "_law_k", "_law_fits_so"]) (m := m__law_bars) F (T.glo 71) sc__law_bars (F.bindsN fun _ _ _ _ _ _ us hl => match us, hl with | [_, _, _], _ => rfl) (fun cdv A outer s H E hr => have sc := sc__law_bars; have hu := hu_of hr; have hv := hv_of hr; (dss_cons (ds_set (i := 3) sc.nd rfl (Or.inl rfl) (de_mut (df_lst da_nil))) (dss_cons (ds_for PassesOwn.never rfl (di_range2 rfl T.fr_range (de_bin (op_add.or op_catA) o_add (de_bin op_sub o_sub (de_var 2) (de_ix (de_var 0) de_int fun _ _ => rfl)) (de_ix (de_var 0) de_int fun _ _ => rfl)) (de_bin (op_add.or op_catA) o_add (de_var 2) (de_ix (de_var 0) de_int fun _ _ => rfl))) (dn_name (i := 4) sc.nd rfl (Or.inl rfl)) (dss_cons (ds_set (i := 5) sc.nd rfl (Or.inl rfl) (de_bin op_modN o_mod (de_callTy call_int1 c_int rfl T.fr_int bt_int (da_cons (de_var 4) da_nil)) (de_ix (de_var 0) de_int fun _ _ => rfl))) (dss_cons (ds_set (i := 6) sc.nd rfl (Or.inl rfl) (de_call ((kn__law_shows T).mono (by omega)) hr rfl (da_cons (de_var 0) (da_cons (de_var 1) (da_cons (de_var 4) da_nil))) (lenA_cons (lenA_cons (lenA_cons lenA_nil))))) (dss_cons (ds_if (dt_cmp op_ge o_int (de_var 4) (de_var 2) rfl) (dss_one (ds_set (i := 6) sc.nd rfl (Or.inl rfl) (de_or (de_var 6) (de_or (de_cmp (op_eqD hv) o_eq (de_ix (de_var 1) (de_var 5) fun _ _ => rfl) (de_tup (da_cons de_str da_nil)) rfl) (de_one (de_call ((kn__law_shows T).mono (by omega)) hr rfl (da_cons (de_var 0) (da_cons (de_var 1) (da_cons (de_bin op_sub o_sub (de_var 4) (de_ix (de_var 0) de_int fun _ _ => rfl)) da_nil))) (lenA_cons (lenA_cons (lenA_cons lenA_nil))))))))) dss_nil) (dss_one (ds_if (dt_not (dt_val (de_var 6))) (dss_one (ds_expr (de_append (de_var 3) (de_var 5)))) dss_nil)))))) (dss_one (ds_ret (de_callTy call_tuple_of c_tuple rfl T.fr_tuple bt_tuple (da_cons (de_imm (df_callB cr_sortedI c_sorted rfl T.fr_sorted bt_sorted (da_cons (de_var 3) da_nil))) da_nil))))))))
theorem sc__law_is_note : FnScope ["_law_own", "_law_its"] ["_law_own"] (defScope (topS 92)) := ⟨rfl, rfl, rfl, by decide +kernel, rfl, by decide +kernel, by decide +kernel⟩
theorem kn__law_is_note {P : Program} {w : World} {K : PySem.W.Frag} {mg : Str → Option Value} {base : Heap} (T : Top K mg) : Kn P w K mg base 1 "_law_is_note" ["_law_own"] g__law_is_note := by
  obtain ⟨fd, F⟩ := T.says.def_ 72 (d := dD__law_is_note) rfl
  exact kn_of (N := ["_law_own", "_law_its"]) (m := m__law_is_note) F (T.glo 72) sc__law_is_note (F.bindsN fun _ _ _ _ _ _ us hl => match us, hl with | [_], _ => rfl) (fun cdv A outer s H E hr => have sc := sc__law_is_note; have hu := hu_of hr; have hv := hv_of hr; (dss_cons (ds_if (dt_w (dw_or (dt_not (dt_val (de_callB call_isiA c_isi rfl T.fr_isinstance bt_isinstance (da_cons (de_var 0) (da_cons (de_ty (n := .tuple) rfl T.fr_tuple bt_tuple) da_nil))))) (dw_or (dt_cmp (op_eqD hv) o_eq (de_var 0) (de_tup da_nil) rfl) (dw_or1 (dt_not (dt_val (de_callB call_isiA c_isi rfl T.fr_isinstance bt_isinstance (da_cons (de_ix (de_var 0) de_int fun _ _ => rfl) (da_cons (de_ty (n := .str) rfl T.fr_str bt_str) da_nil))))))))) (dss_one (ds_ret de_bl)) dss_nil) (dss_cons (ds_if (dt_cmp (op_eqD hv) o_eq (de_ix (de_var 0) de_int fun _ _ => rfl) de_str rfl) (dss_one (ds_ret (de_cmp (op_eqD hv) o_eq (de_callB call_lenA c_len rfl T.fr_len bt_len (da_cons (de_var 0) da_nil)) de_int rfl))) dss_nil) (dss_cons (ds_if (dt_w (dw_or (dt_cmp (op_notInB hu) (o_in true) (de_ix (de_var 0) de_int fun _ _ => rfl) (de_tup (da_cons de_str (da_cons de_str da_nil))) rfl) (dw_or1 (dt_cmp (op_neD hv) o_ne (de_callB call_lenA c_len rfl T.fr_len bt_len (da_cons (de_var 0) da_nil)) (de_if (dt_cmp (op_eqD hv) o_eq (de_ix (de_var 0) de_int fun _ _ => rfl) de_str rfl) de_int de_int) rfl)))) (dss_one (ds_ret de_bl)) dss_nil) (dss_cons (ds_if (dt_cmp (op_neD hv) o_ne (de_imm (df_lc (own := [("_law_its", 1)]) rfl sc.nd (di_sq (de_sl (de_var 0) (do_some de_int) (do_some (de_neg de_int)))) (blkOk_by (own := [("_law_its", 1)]) (by kernel_rfl)) (fun s H C cl fp => (dn_name (i := 1) sc.nd rfl (Or.inl rfl))) (fun s H C cl fp => (dts_one (dt_not (dt_val (de_callB call_isiA c_isi rfl T.fr_isinstance bt_isinstance (da_cons (de_var 1) (da_cons (de_ty (n := .str) rfl T.fr_str bt_str) da_nil))))))) (fun s H C cl fp => (de_var 1)) (inN_name (by decide)))) (de_imm (df_lst da_nil)) rfl) (dss_one (ds_ret de_bl)) dss_nil) (dss_one (ds_ret (de_cmp (op_eqD hv) o_eq (de_imm (df_lc (own := [("_law_its", 1)]) rfl sc.nd (di_sq (de_sl (de_var 0) (do_some (de_neg de_int)) do_none)) (blkOk_by (own := [("_law_its", 1)]) (by kernel_rfl)) (fun s H C cl fp => (dn_name (i := 1) sc.nd rfl (Or.inl rfl))) (fun s H C cl fp => (dts_one (dt_w (dw_or (dt_not (dt_val (de_callB call_isiA c_isi rfl T.fr_isinstance bt_isinstance (da_cons (de_var 1) (da_cons (de_ty (n := .int) rfl T.fr_int bt_int) da_nil))))) (dw_or (dt_val (de_callB call_isiA c_isi rfl T.fr_isinstance bt_isinstance (da_cons (de_var 1) (da_cons (de_ty (n := .bool) rfl T.fr_bool bt_bool) da_nil)))) (dw_or1 (dt_cmp op_lt o_int (de_var 1) de_int rfl))))))) (fun s H C cl fp => (de_var 1)) (inN_name (by decide)))) (de_imm (df_lst da_nil)) rfl))))))))
theorem sc__law_are_fates : FnScope ["_law_own", "_law_many_so", "_law_its"] ["_law_own", "_law_many_so"] (defScope (topS 93)) := ⟨rfl, rfl, rfl, by decide +kernel, rfl, by decide +kernel, by decide +kernel⟩
theorem kn__law_are_fates {P : Program} {w : World} {K : PySem.W.Frag} {mg : Str → Option Value} {base : Heap} (T : Top K mg) : Kn P w K mg base 1 "_law_are_fates" ["_law_own", "_law_many_so"] g__law_are_fates := by
  obtain ⟨fd, F⟩ := T.says.def_ 73 (d := dD__law_are_fates) rfl
  exact kn_of (N := ["_law_own", "_law_many_so", "_law_its"]) (m := m__law_are_fates) F (T.glo 73) sc__law_are_fates (F.bindsN fun _ _ _ _ _ _ us hl => match us, hl with | [_, _], _ => rfl) (fun cdv A outer s H E hr => have sc := sc__law_are_fates; have hu := hu_of hr; have hv := hv_of hr; (dss_cons (ds_if (dt_w (dw_or (dt_not (dt_val (de_callB call_isiA c_isi rfl T.fr_isinstance bt_isinstance (da_cons (de_var 0) (da_cons (de_ty (n := .tuple) rfl T.fr_tuple bt_tuple) da_nil))))) (dw_or1 (dt_cmp (op_neD hv) o_ne (de_callB call_lenA c_len rfl T.fr_len bt_len (da_cons (de_var 0) da_nil)) (de_var 1) rfl)))) (dss_one (ds_ret de_bl)) dss_nil) (dss_one (ds_ret (de_cmp (op_eqD hv) o_eq (de_imm (df_lc (own := [("_law_its", 2)]) rfl sc.nd (di_sq (de_var 0)) (blkOk_by (own := [("_law_its", 2)]) (by kernel_rfl)) (fun s H C cl fp => (dn_name (i := 2) sc.nd rfl (Or.inl rfl))) (fun s H C cl fp => (dts_one (dt_w (dw_or (dt_not (dt_val (de_callB call_isiA c_isi rfl T.fr_isinstance bt_isinstance (da_cons (de_var 2) (da_cons (de_ty (n := .str) rfl T.fr_str bt_str) da_nil))))) (dw_or1 (dt_cmp (op_notInB hu) (o_in true) (de_var 2) (de_tup (da_cons de_str (da_cons de_str (da_cons de_str da_nil)))) rfl)))))) (fun s H C cl fp => (de_var 2)) (inN_name (by decide)))) (de_imm (df_lst da_nil)) rfl)))))
theorem sc__law_went : FnScope ["_law_form", "_law_gear_here", "_law_own", "_law_place_so", "_law_its"] ["_law_form", "_law_gear_here", "_law_own"] (defScope (topS 94)) := ⟨rfl, rfl, rfl, by decide +kernel, rfl, by decide +kernel, by decide +kernel⟩
theorem kn__law_went {P : Program} {w : World} {K : PySem.W.Frag} {mg : Str → Option Value} {base : Heap} (T : Top K mg) : Kn P w K mg base 7 "_law_went" ["_law_form", "_law_gear_here", "_law_own"] g__law_went := by
  obtain ⟨fd, F⟩ := T.says.def_ 74 (d := dD__law_went) rfl
  exact kn_of (N := ["_law_form", "_law_gear_here", "_law_own", "_law_place_so", "_law_its"]) (m := m__law_went) F (T.glo 74) sc__law_went (F.bindsN fun _ _ _ _ _ _ us hl => match us, hl with | [_, _, _], _ => rfl) (fun cdv A outer s H E hr => have sc := sc__law_went; have hu := hu_of hr; have hv := hv_of hr; (dss_cons (ds_if (dt_w (dw_or (dt_not (dt_val (de_callB call_isiA c_isi rfl T.fr_isinstance bt_isinstance (da_cons (de_var 2) (da_cons (de_ty (n := .tuple) rfl T.fr_tuple bt_tuple) da_nil))))) (dw_or (dt_cmp (op_eqD hv) o_eq (de_var 2) (de_tup da_nil) rfl) (dw_or1 (dt_not (dt_val (de_callB call_isiA c_isi rfl T.fr_isinstance bt_isinstance (da_cons (de_ix (de_var 2) de_int fun _ _ => rfl) (da_cons (de_ty (n := .str) rfl T.fr_str bt_str) da_nil))))))))) (dss_one (ds_ret de_bl)) dss_nil) (dss_cons (ds_if (dt_val (de_ix (de_var 1) de_int fun _ _ => rfl)) (dss_cons (ds_if (dt_w (dw_and (dt_cmp (op_eqD hv) o_eq (de_ix (de_var 2) de_int fun _ _ => rfl) de_str rfl) (dw_and (dt_cmp (op_eqD hv) o_eq (de_callB call_lenA c_len rfl T.fr_len bt_len (da_cons (de_var 2) da_nil)) de_int rfl) (dw_and1 (dt_val (de_call ((kn__law_is_note T).mono (by omega)) hr rfl (da_cons (de_ix (de_var 2) de_int fun _ _ => rfl) da_nil) (lenA_cons lenA_nil))))))) (dss_one (ds_expr (de_call ((kn__law_write T).mono (by omega)) hr rfl (da_cons (de_var 1) (da_cons (de_ix (de_var 2) de_int fun _ _ => rfl) da_nil)) (lenA_cons (lenA_cons lenA_nil))))) (dss_one (ds_if (dt_cmp (op_eqD hv) o_eq (de_var 2) (de_tup (da_cons de_str da_nil)) rfl) (dss_one (ds_expr (de_call ((kn__law_stand T).mono (by omega)) hr rfl (da_cons (de_var 1) da_nil) (lenA_cons lenA_nil)))) (dss_one (ds_if (dt_w (dw_and (dt_cmp (op_eqD hv) o_eq (de_ix (de_var 2) de_int fun _ _ => rfl) de_str rfl) (dw_and (dt_cmp (op_eqD hv) o_eq (de_callB call_lenA c_len rfl T.fr_len bt_len (da_cons (de_var 2) da_nil)) de_int rfl) (dw_and1 (dt_val (de_call ((kn__law_are_fates T).mono (by omega)) hr rfl (da_cons (de_ix (de_var 2) de_int fun _ _ => rfl) (da_cons (de_callB call_lenA c_len rfl T.fr_len bt_len (da_cons (de_ix (de_var 1) de_int fun _ _ => rfl) da_nil)) da_nil)) (lenA_cons (lenA_cons lenA_nil)))))))) (dss_one (ds_expr (de_call ((kn__law_cut T).mono (by omega)) hr rfl (da_cons (de_var 1) (da_cons (de_ix (de_var 2) de_int fun _ _ => rfl) da_nil)) (lenA_cons (lenA_cons lenA_nil))))) (dss_one (ds_ret de_bl))))))) (dss_one (ds_ret de_bl))) dss_nil) (dss_cons (ds_set (i := 3) sc.nd rfl (Or.inl rfl) (de_call ((kn__law_answer T).mono (by omega)) hr rfl (da_cons (de_var 0) (da_cons (de_callTy call_tuple_of c_tuple rfl T.fr_tuple bt_tuple (da_cons (de_ix (de_var 1) de_int fun _ _ => rfl) da_nil)) da_nil)) (lenA_cons (lenA_cons lenA_nil)))) (dss_cons (ds_if (dt_cmp op_isN o_is (de_var 3) de_non rfl) (dss_one (ds_ret de_bl)) dss_nil) (dss_cons (ds_if (dt_w (dw_and (dt_cmp (op_eqD hv) o_eq (de_ix (de_var 2) de_int fun _ _ => rfl) de_str rfl) (dw_and (dt_cmp (op_eqD hv) o_eq (de_callB call_lenA c_len rfl T.fr_len bt_len (da_cons (de_var 2) da_nil)) de_int rfl) (dw_and (dt_val (de_callB call_isiA c_isi rfl T.fr_isinstance bt_isinstance (da_cons (de_ix (de_var 2) de_int fun _ _ => rfl) (da_cons (de_ty (n := .int) rfl T.fr_int bt_int) da_nil)))) (dw_and1 (dt_not (dt_val (de_callB call_isiA c_isi rfl T.fr_isinstance bt_isinstance (da_cons (de_ix (de_var 2) de_int fun _ _ => rfl) (da_cons (de_ty (n := .bool) rfl T.fr_bool bt_bool) da_nil)))))))))) (dss_one (ds_if (dt_w (dw_and (dt_chain op_le o_int op_le o_int de_int (de_ix (de_var 2) de_int fun _ _ => rfl) (de_callB call_lenA c_len rfl T.fr_len bt_len (da_cons (de_call ((kn__law_mending T).mono (by omega)) hr rfl (da_cons (de_var 0) (da_cons (de_ix (de_var 1) de_int fun _ _ => rfl) da_nil)) (lenA_cons (lenA_cons lenA_nil))) da_nil))) (dw_and1 (dt_val (de_call ((kn__law_are_fates T).mono (by omega)) hr rfl (da_cons (de_ix (de_var 2) de_int fun _ _ => rfl) (da_cons (de_ix (de_var 2) de_int fun _ _ => rfl) da_nil)) (lenA_cons (lenA_cons lenA_nil))))))) (dss_cons (ds_expr (de_call ((kn__law_mend T).mono (by omega)) hr rfl (da_cons (de_var 1) (da_cons (de_ix (de_var 2) de_int fun _ _ => rfl) (da_cons (de_ix (de_var 2) de_int fun _ _ => rfl) da_nil))) (lenA_cons (lenA_cons (lenA_cons lenA_nil))))) (dss_one (ds_ret de_bl))) dss_nil)) (dss_one (ds_if (dt_cmp (op_eqD hv) o_eq (de_var 2) (de_tup (da_cons de_str da_nil)) rfl) (dss_cons (ds_for PassesOwn.never rfl (di_sq (de_call ((kn__law_mending T).mono (by omega)) hr rfl (da_cons (de_var 0) (da_cons (de_ix (de_var 1) de_int fun _ _ => rfl) da_nil)) (lenA_cons (lenA_cons lenA_nil)))) (dn_name (i := 4) sc.nd rfl (Or.inl rfl)) (dss_one (ds_asgG (de_ix (de_var 4) de_int fun _ _ => rfl) (dg_sub (de_ix (de_var 1) de_int fun _ _ => rfl) (de_ix (de_var 4) de_int fun _ _ => rfl))))) (dss_cons (ds_asgT rfl (da_cons (de_var 3) (da_cons (de_var 3) (da_cons de_bl da_nil))) (dgs_cons (dg_sub (de_var 1) de_int) (dgs_cons (dg_sub (de_var 1) de_int) (dgs_cons (dg_sub (de_var 1) de_int) dgs_nil))) (lenA_cons (lenA_cons (lenA_cons lenA_nil)))) (dss_one (ds_ret de_bl)))) dss_nil))) (dss_one (ds_ret de_bl))))))))
theorem sc__law_face_behind : FnScope ["_law_form", "_law_tale", "_law_gear_here", "_law_own"] ["_law_form", "_law_tale"] (defScope (topS 95)) := ⟨rfl, rfl, rfl, by decide +kernel, rfl, by decide +kernel, by decide +kernel⟩
theorem kn__law_face_behind {P : Program} {w : World} {K : PySem.W.Frag} {mg : Str → Option Value} {base : Heap} (T : Top K mg) : Kn P w K mg base 8 "_law_face_behind" ["_law_form", "_law_tale"] g__law_face_behind := by
  obtain ⟨fd, F⟩ := T.says.def_ 75 (d := dD__law_face_behind) rfl
  exact Kn.trimG (kn_of (N := ["_law_form", "_law_tale", "_law_gear_here", "_law_own"]) (m := m__law_face_behind) F (T.glo 75) sc__law_face_behind (F.bindsN fun _ _ _ _ _ _ us hl => match us, hl with | [_, _], _ => rfl) (fun cdv A outer s H E hr => have sc := sc__law_face_behind; have hu := hu_of hr; have hv := hv_of hr; (dss_cons (ds_set (i := 2) sc.nd rfl (Or.inl rfl) (de_call ((kn__law_gear T).mono (by omega)) hr rfl (da_cons (de_var 0) da_nil) (lenA_cons lenA_nil))) (dss_cons (ds_if (dt_not (dt_val (de_callB call_isiA c_isi rfl T.fr_isinstance bt_isinstance (da_cons (de_var 1) (da_cons (de_ty (n := .tuple) rfl T.fr_tuple bt_tuple) da_nil))))) (dss_one (ds_ret de_non)) dss_nil) (dss_cons (ds_for PassesOwn.never rfl (di_sq (de_var 1)) (dn_name (i := 3) sc.nd rfl (Or.inl rfl)) (dss_one (ds_if (dt_not (dt_val (de_call ((kn__law_went T).mono (by omega)) hr rfl (da_cons (de_var 0) (da_cons (de_var 2) (da_cons (de_var 3) da_nil))) (lenA_cons (lenA_cons (lenA_cons lenA_nil)))))) (dss_one (ds_ret de_non)) dss_nil))) (dss_one (ds_ret (de_callTy call_tuple_of c_tuple rfl T.fr_tuple bt_tuple (da_cons (de_ix (de_var 2) de_int fun _ _ => rfl) da_nil)))))))))
theorem sc__law_drawn_life : FnScope ["_law_tin", "_law_form", "_law_many_so", "_law_gear_here", "_law_found", "_law_lap_here", "_law_kind_so", "_law_own", "_law_n"] ["_law_tin", "_law_form", "_law_many_so"] (defScope (topS 96)) := ⟨rfl, rfl, rfl, by decide +kernel, rfl, by decide +kernel, by decide +kernel⟩
theorem kn__law_drawn_life {P : Program} {w : World} {K : PySem.W.Frag} {mg : Str → Option Value} {base : Heap} (T : Top K mg) : Kn P w K mg base 8 "_law_drawn_life" ["_law_tin", "_law_form", "_law_many_so"] g__law_drawn_life := by
  obtain ⟨fd, F⟩ := T.says.def_ 76 (d := dD__law_drawn_life) rfl
  exact Kn.trimG (kn_of (N := ["_law_tin", "_law_form", "_law_many_so", "_law_gear_here", "_law_found", "_law_lap_here", "_law_kind_so", "_law_own", "_law_n"]) (m := m__law_drawn_life) F (T.glo 76) sc__law_drawn_life (F.bindsN fun _ _ _ _ _ _ us hl => match us, hl with | [_, _, _], _ => rfl) (fun cdv A outer s H E hr => have sc := sc__law_drawn_life; have hu := hu_of hr; have hv := hv_of hr; (dss_cons (ds_par (i := 3) (j := 4) rfl sc.nd rfl rfl (by decide) rfl rfl (da_cons (de_call ((kn__law_gear T).mono (by omega)) hr rfl (da_cons (de_var 1) da_nil) (lenA_cons lenA_nil)) (da_cons (de_mut (df_lst da_nil)) da_nil)) rfl) (dss_cons (ds_for PassesOwn.never rfl (di_range1 rfl T.fr_range (de_var 2)) (dn_name (i := 5) sc.nd rfl (Or.inl rfl)) (dss_cons (ds_set (i := 6) sc.nd rfl (Or.inl rfl) (de_call ((kn__law_take T).mono (by omega)) hr rfl (da_cons (de_var 0) (da_cons de_int da_nil)) (lenA_cons (lenA_cons lenA_nil)))) (dss_cons (ds_if (dt_val (de_ix (de_var 3) de_int fun _ _ => rfl)) (dss_one (ds_set (i := 7) sc.nd rfl (Or.inl rfl) (de_if (dt_cmp op_lt o_int (de_var 6) de_int rfl) (de_tup (da_cons de_str (da_cons (de_call ((kn__law_note T).mono (by omega)) hr rfl (da_cons (de_var 0) da_nil) (lenA_cons lenA_nil)) da_nil))) (de_if (dt_cmp (op_eqD hv) o_eq (de_var 6) de_int rfl) (de_tup (da_cons de_str da_nil)) (de_tup (da_cons de_str (da_cons (de_call ((kn__law_fates T).mono (by omega)) hr rfl (da_cons (de_var 0) (da_cons (de_callB call_lenA c_len rfl T.fr_len bt_len (da_cons (de_ix (de_var 3) de_int fun _ _ => rfl) da_nil)) da_nil)) (lenA_cons (lenA_cons lenA_nil))) da_nil))))))) (dss_one (ds_if (dt_cmp op_isN o_is (de_call ((kn__law_answer T).mono (by omega)) hr rfl (da_cons (de_var 1) (da_cons (de_callTy call_tuple_of c_tuple rfl T.fr_tuple bt_tuple (da_cons (de_ix (de_var 3) de_int fun _ _ => rfl) da_nil)) da_nil)) (lenA_cons (lenA_cons lenA_nil))) de_non rfl) (dss_one ds_break) (dss_cons (ds_set (i := 8) sc.nd rfl (Or.inl rfl) (de_call ((kn__law_take T).mono (by omega)) hr rfl (da_cons (de_var 0) (da_cons (de_bin (op_add.or op_catA) o_add (de_callB call_lenA c_len rfl T.fr_len bt_len (da_cons (de_call ((kn__law_mending T).mono (by omega)) hr rfl (da_cons (de_var 1) (da_cons (de_ix (de_var 3) de_int fun _ _ => rfl) da_nil)) (lenA_cons (lenA_cons lenA_nil))) da_nil)) de_int) da_nil)) (lenA_cons (lenA_cons lenA_nil)))) (dss_one (ds_set (i := 7) sc.nd rfl (Or.inl rfl) (de_if (dt_cmp op_lt o_int (de_var 6) de_int rfl) (de_tup (da_cons de_str da_nil)) (de_tup (da_cons de_str (da_cons (de_var 8) (da_cons (de_call ((kn__law_fates T).mono (by omega)) hr rfl (da_cons (de_var 0) (da_cons (de_var 8) da_nil)) (lenA_cons (lenA_cons lenA_nil))) da_nil))))))))))) (dss_cons (ds_if (dt_not (dt_val (de_call ((kn__law_went T).mono (by omega)) hr rfl (da_cons (de_var 1) (da_cons (de_var 3) (da_cons (de_var 7) da_nil))) (lenA_cons (lenA_cons (lenA_cons lenA_nil)))))) (dss_one ds_break) dss_nil) (dss_one (ds_expr (de_append (de_var 4) (de_var 7)))))))) (dss_one (ds_ret (de_tup (da_cons (de_callTy call_tuple_of c_tuple rfl T.fr_tuple bt_tuple (da_cons (de_var 4) da_nil)) (da_cons (de_callTy call_tuple_of c_tuple rfl T.fr_tuple bt_tuple (da_cons (de_ix (de_var 3) de_int fun _ _ => rfl) da_nil)) da_nil)))))))))
theorem sc__law_heard : FnScope ["_law_door", "_law_form", "_law_face_here", "_law_told", "flaw"] ["_law_door", "_law_form", "_law_face_here"] (defScope (topS 97)) := ⟨rfl, rfl, rfl, by decide +kernel, rfl, by decide +kernel, by decide +kernel⟩
theorem kn__law_heard {P : Program} {w : World} {K : PySem.W.Frag} {mg : Str → Option Value} {base : Heap} (T : Top K mg) : Kn P w K mg base 17 "_law_heard" ["_law_door", "_law_form", "_law_face_here"] g__law_heard := by
  obtain ⟨fd, F⟩ := T.says.def_ 77 (d := dD__law_heard) rfl
  exact kn_of (N := ["_law_door", "_law_form", "_law_face_here", "_law_told", "flaw"]) (m := m__law_heard) F (T.glo 77) sc__law_heard (F.bindsN fun _ _ _ _ _ _ us hl => match us, hl with | [_, _, _], _ => rfl) (fun cdv A outer s H E hr => have sc := sc__law_heard; have hu := hu_of hr; have hv := hv_of hr; (dss_cons (ds_set (i := 3) sc.nd rfl (Or.inl rfl) de_non) (dss_cons (ds_try (i := 3) (j := 4) rfl rfl sc.nd rfl rfl (by decide) rfl rfl rfl T.cannot (by decide) T.excC T.xc0 T.xc1 rfl T.fr_isinstance rfl T.fr_ValueError bt_isinstance bt_ValueError (by decide) (by decide) takes0 (fun W pn xe tk => (dx_if (dt_cmp (op_eqD hv) o_eq (de_var 0) de_int rfl) (dx_call tk ((kn_life_to T).mono (by omega)) ord_g2 hr rfl (dk_cons (de_var 2) (dk_cons (de_var 1) dk_nil)) (lenA_cons (lenA_cons lenA_nil)) (by decide) len_g2) (dx_call tk ((kn_reason T).mono (by omega)) ord_g2 hr rfl (dk_cons (de_var 2) (dk_cons (de_var 1) dk_nil)) (lenA_cons (lenA_cons lenA_nil)) (by decide) len_g2)))) (dss_one (ds_ret (de_var 3))))))
theorem sc__law_is_reason : FnScope ["_law_form", "_law_face_here", "_law_own", "_law_its", "_law_n"] ["_law_form", "_law_face_here", "_law_own"] (defScope (topS 99)) := ⟨rfl, rfl, rfl, by decide +kernel, rfl, by decide +kernel, by decide +kernel⟩
theorem kn__law_is_reason {P : Program} {w : World} {K : PySem.W.Frag} {mg : Str → Option Value} {base : Heap} (T : Top K mg) : Kn P w K mg base 4 "_law_is_reason" ["_law_form", "_law_face_here", "_law_own"] g__law_is_reason := by
  obtain ⟨fd, F⟩ := T.says.def_ 79 (d := dD__law_is_reason) rfl
  exact kn_of (N := ["_law_form", "_law_face_here", "_law_own", "_law_its", "_law_n"]) (m := m__law_is_reason) F (T.glo 79) sc__law_is_reason (F.bindsN fun _ _ _ _ _ _ us hl => match us, hl with | [_, _, _], _ => rfl) (fun cdv A outer s H E hr => have sc := sc__law_is_reason; have hu := hu_of hr; have hv := hv_of hr; (dss_cons (ds_if (dt_w (dw_or (dt_not (dt_val (de_callB call_isiA c_isi rfl T.fr_isinstance bt_isinstance (da_cons (de_var 2) (da_cons (de_ty (n := .tuple) rfl T.fr_tuple bt_tuple) da_nil))))) (dw_or1 (dt_cmp (op_neD hv) o_ne (de_callB call_lenA c_len rfl T.fr_len bt_len (da_cons (de_var 2) da_nil)) (de_bin (op_mul.or op_mulT) o_mulA (de_ix (de_var 0) de_int fun _ _ => rfl) (de_ix (de_var 0) de_int fun _ _ => rfl)) rfl)))) (dss_one (ds_ret de_bl)) dss_nil) (dss_cons (ds_if (dt_cmp (op_neD hv) o_ne (de_imm (df_lc (own := [("_law_its", 3)]) rfl sc.nd (di_sq (de_var 2)) (blkOk_by (own := [("_law_its", 3)]) (by kernel_rfl)) (fun s H C cl fp => (dn_name (i := 3) sc.nd rfl (Or.inl rfl))) (fun s H C cl fp => (dts_one (dt_w (dw_or (dt_not (dt_val (de_callB call_isiA c_isi rfl T.fr_isinstance bt_isinstance (da_cons (de_var 3) (da_cons (de_ty (n := .int) rfl T.fr_int bt_int) da_nil))))) (dw_or1 (dt_val (de_callB call_isiA c_isi rfl T.fr_isinstance bt_isinstance (da_cons (de_var 3) (da_cons (de_ty (n := .bool) rfl T.fr_bool bt_bool) da_nil))))))))) (fun s H C cl fp => (de_var 3)) (inN_name (by decide)))) (de_imm (df_lst da_nil)) rfl) (dss_one (ds_ret de_bl)) dss_nil) (dss_one (ds_ret (de_cmp (op_eqD hv) o_eq (de_imm (df_lc (own := [("_law_n", 4)]) rfl sc.nd (di_range1 rfl T.fr_range (de_callB call_lenA c_len rfl T.fr_len bt_len (da_cons (de_var 2) da_nil))) (blkOk_by (own := [("_law_n", 4)]) (by kernel_rfl)) (fun s H C cl fp => (dn_name (i := 4) sc.nd rfl (Or.inl rfl))) (fun s H C cl fp => (dts_one (dt_cmp (op_notInB hu) (o_in true) (de_ix (de_var 2) (de_var 4) fun _ _ => rfl) (de_call ((kn__law_bars T).mono (by omega)) hr rfl (da_cons (de_var 0) (da_cons (de_var 1) (da_cons (de_var 4) da_nil))) (lenA_cons (lenA_cons (lenA_cons lenA_nil)))) rfl))) (fun s H C cl fp => (de_var 4)) (inN_name (by decide)))) (de_imm (df_lst da_nil)) rfl))))))
theorem sc__law_by_hand_right : FnScope ["_law_form", "_law_void", "_law_torn", "_law_fine", "_law_wrong", "_law_got", "_law_due", "_law_six", "_law_begun", "_law_told", "_law_some", "_law_own", "_law_its"] [] (defScope (topS 98)) := ⟨rfl, rfl, rfl, by decide +kernel, rfl, by decide +kernel, by decide +kernel⟩
theorem kn__law_by_hand_right {P : Program} {w : World} {K : PySem.W.Frag} {mg : Str → Option Value} {base : Heap} (T : Top K mg) : Kn P w K mg base 18 "_law_by_hand_right" [] g__law_by_hand_right := by
  obtain ⟨fd, F⟩ := T.says.def_ 78 (d := dD__law_by_hand_right) rfl
  exact Kn.trimG (kn_of (N := ["_law_form", "_law_void", "_law_torn", "_law_fine", "_law_wrong", "_law_got", "_law_due", "_law_six", "_law_begun", "_law_told", "_law_some", "_law_own", "_law_its"]) (m := m__law_by_hand_right) F (T.glo 78) sc__law_by_hand_right (F.bindsN fun _ _ _ _ _ _ us hl => match us, hl with | [], _ => rfl) (fun cdv A outer s H E hr => have sc := sc__law_by_hand_right; have hu := hu_of hr; have hv := hv_of hr; (dss_cons (ds_asgT rfl (da_cons (de_tup (da_cons de_int (da_cons de_int (da_cons de_int da_nil)))) (da_cons (de_tup (da_cons de_str da_nil)) (da_cons (de_tup (da_cons de_str da_nil)) da_nil))) (dgs_cons (dg_nm (dn_name (i := 0) sc.nd rfl (Or.inr rfl))) (dgs_cons (dg_nm (dn_name (i := 1) sc.nd rfl (Or.inl rfl))) (dgs_cons (dg_nm (dn_name (i := 2) sc.nd rfl (Or.inl rfl))) dgs_nil))) (lenA_cons (lenA_cons (lenA_cons lenA_nil)))) (dss_cons (ds_asgT rfl (da_cons (de_tup (da_cons (de_tup (da_cons de_int (da_cons (de_var 1) da_nil))) (da_cons (de_var 2) (da_cons (de_tup (da_cons de_int (da_cons (de_var 1) da_nil))) (da_cons (de_tup (da_cons de_int (da_cons (de_var 1) da_nil))) da_nil))))) (da_cons (de_tup (da_cons (de_tup (da_cons de_int (da_cons (de_var 1) da_nil))) (da_cons (de_tup (da_cons de_int (da_cons (de_var 1) da_nil))) (da_cons (de_tup (da_cons de_int (da_cons (de_var 1) da_nil))) (da_cons (de_tup (da_cons de_int (da_cons (de_var 1) da_nil))) da_nil))))) da_nil)) (dgs_cons (dg_nm (dn_name (i := 3) sc.nd rfl (Or.inr rfl))) (dgs_cons (dg_nm (dn_name (i := 4) sc.nd rfl (Or.inl rfl))) dgs_nil)) (lenA_cons (lenA_cons lenA_nil))) (dss_cons (ds_set (i := 5) sc.nd rfl (Or.inl rfl) (de_mut (df_lst (da_cons (de_call ((kn_can_lie T).mono (by omega)) hr rfl (da_cons (de_var 0) (da_cons (de_var 3) da_nil)) (lenA_cons (lenA_cons lenA_nil))) (da_cons (de_call ((kn_can_lie T).mono (by omega)) hr rfl (da_cons (de_var 0) (da_cons (de_var 4) da_nil)) (lenA_cons (lenA_cons lenA_nil))) (da_cons (de_call ((kn_bars T).mono (by omega)) hr rfl (da_cons (de_var 0) (da_cons (de_var 3) (da_cons de_int da_nil))) (lenA_cons (lenA_cons (lenA_cons lenA_nil)))) (da_cons (de_call ((kn_bars T).mono (by omega)) hr rfl (da_cons (de_var 0) (da_cons (de_var 4) (da_cons de_int da_nil))) (lenA_cons (lenA_cons (lenA_cons lenA_nil)))) (da_cons (de_call ((kn_bars T).mono (by omega)) hr rfl (da_cons (de_var 0) (da_cons (de_var 3) (da_cons de_int da_nil))) (lenA_cons (lenA_cons (lenA_cons lenA_nil)))) da_nil)))))))) (dss_cons (ds_set (i := 6) sc.nd rfl (Or.inl rfl) (de_mut (df_lst (da_cons de_bl (da_cons de_bl (da_cons (de_tup da_nil) (da_cons (de_tup (da_cons de_int da_nil)) (da_cons (de_tup (da_cons de_int (da_cons de_int (da_cons de_int (da_cons de_int da_nil))))) da_nil)))))))) (dss_cons (ds_set (i := 7) sc.nd rfl (Or.inl rfl) (de_bin (op_add.or op_catA) o_add (de_bin (op_mul.or op_mulT) o_mulA (de_tup (da_cons (de_tup (da_cons de_str (da_cons (de_var 1) da_nil))) da_nil)) de_int) (de_tup (da_cons (de_tup (da_cons de_str da_nil)) (da_cons (de_tup (da_cons de_str (da_cons (de_var 1) da_nil))) (da_cons (de_tup (da_cons de_str (da_cons (de_tup (da_cons de_str da_nil)) da_nil))) da_nil)))))) (dss_cons (ds_set (i := 5) sc.nd rfl (Or.inl rfl) (de_mut (df_cat (de_var 5) (de_imm (df_lst (da_cons (de_imm (df_lc (own := [("_law_own", 11)]) rfl sc.nd (di_sq (de_tup (da_cons (de_var 7) (da_cons (de_sl (de_var 7) do_none (do_some de_int)) (da_cons (de_sl (de_var 7) do_none (do_some de_int)) (da_cons (de_imm (df_callTy call_list_of c_list rfl T.fr_list bt_list (da_cons (de_var 7) da_nil))) (da_cons (de_bin (op_add.or op_catA) o_add (de_sl (de_var 7) do_none (do_some (de_neg de_int))) (de_tup (da_cons (de_tup (da_cons de_str (da_cons (de_tup (da_cons de_str da_nil)) da_nil))) da_nil))) (da_cons (de_tup da_nil) da_nil)))))))) (blkOk_by (own := [("_law_own", 11)]) (by kernel_rfl)) (fun s H C cl fp => (dn_name (i := 11) sc.nd rfl (Or.inl rfl))) (fun s H C cl fp => dts_nil) (fun s H C cl fp => (de_call ((kn_is_life_to T).mono (by omega)) hr rfl (da_cons (de_var 0) (da_cons (de_var 3) (da_cons (de_var 11) da_nil))) (lenA_cons (lenA_cons (lenA_cons lenA_nil))))) (inN_name (by decide)))) da_nil)))))) (dss_cons (ds_expr (de_append (de_var 6) (de_imm (df_lst (da_cons de_bl (da_cons de_bl (da_cons de_bl (da_cons de_bl (da_cons de_bl (da_cons de_bl da_nil)))))))))) (dss_cons (ds_set (i := 8) sc.nd rfl (Or.inr rfl) (de_bin (op_mul.or op_mulT) o_mulA (de_tup (da_cons (de_tup (da_cons de_int (da_cons (de_var 1) da_nil))) da_nil)) de_int)) (dss_cons (ds_set (i := 5) sc.nd rfl (Or.inl rfl) (de_mut (df_cat (de_var 5) (de_imm (df_lst (da_cons (de_imm (df_lc (own := [("_law_own", 11)]) rfl sc.nd (di_sq (de_tup (da_cons (de_tup da_nil) (da_cons (de_tup (da_cons (de_tup (da_cons de_str da_nil)) da_nil)) (da_cons (de_tup (da_cons (de_tup (da_cons de_str (da_cons (de_var 1) da_nil))) da_nil)) (da_cons (de_tup (da_cons (de_tup (da_cons de_str (da_cons (de_tup da_nil) da_nil))) (da_cons (de_tup (da_cons de_str da_nil)) da_nil))) (da_cons (de_tup (da_cons (de_tup (da_cons de_str da_nil)) da_nil)) (da_cons (de_tup (da_cons (de_tup (da_cons de_str (da_cons (de_tup (da_cons de_str da_nil)) da_nil))) da_nil)) da_nil)))))))) (blkOk_by (own := [("_law_own", 11)]) (by kernel_rfl)) (fun s H C cl fp => (dn_name (i := 11) sc.nd rfl (Or.inl rfl))) (fun s H C cl fp => dts_nil) (fun s H C cl fp => (de_call ((kn_is_life_to T).mono (by omega)) hr rfl (da_cons (de_var 0) (da_cons (de_var 8) (da_cons (de_var 11) da_nil))) (lenA_cons (lenA_cons (lenA_cons lenA_nil))))) (inN_name (by decide)))) da_nil)))))) (dss_cons (ds_expr (de_append (de_var 6) (de_imm (df_lst (da_cons de_bl (da_cons de_bl (da_cons de_bl (da_cons de_bl (da_cons de_bl (da_cons de_bl da_nil)))))))))) (dss_cons (ds_set (i := 9) sc.nd rfl (Or.inl rfl) (de_tup (da_cons de_int (da_cons de_int (da_cons de_int (da_cons de_int (da_cons de_int (da_cons de_int (da_cons de_int (da_cons de_int (da_cons de_int (da_cons de_int (da_cons de_int (da_cons de_int da_nil)))))))))))))) (dss_cons (ds_set (i := 5) sc.nd rfl (Or.inl rfl) (de_mut (df_cat (de_var 5) (de_imm (df_lst (da_cons (de_call ((kn_is_reason T).mono (by omega)) hr rfl (da_cons (de_var 0) (da_cons (de_var 4) (da_cons (de_bin (op_add.or op_catA) o_add (de_bin (op_add.or op_catA) o_add (de_sl (de_var 9) do_none (do_some de_int)) (de_tup (da_cons de_int da_nil))) (de_sl (de_var 9) (do_some de_int) do_none)) da_nil))) (lenA_cons (lenA_cons (lenA_cons lenA_nil)))) (da_cons (de_call ((kn_is_reason T).mono (by omega)) hr rfl (da_cons (de_var 0) (da_cons (de_var 4) (da_cons (de_sl (de_var 9) do_none (do_some de_int)) da_nil))) (lenA_cons (lenA_cons (lenA_cons lenA_nil)))) (da_cons (de_call ((kn_is_reason T).mono (by omega)) hr rfl (da_cons (de_var 0) (da_cons (de_var 3) (da_cons (de_var 9) da_nil))) (lenA_cons (lenA_cons (lenA_cons lenA_nil)))) (da_cons (de_call ((kn_is_reason T).mono (by omega)) hr rfl (da_cons (de_var 0) (da_cons (de_var 4) (da_cons (de_imm (df_callTy call_list_of c_list rfl T.fr_list bt_list (da_cons (de_var 9) da_nil))) da_nil))) (lenA_cons (lenA_cons (lenA_cons lenA_nil)))) da_nil))))))))) (dss_cons (ds_set (i := 6) sc.nd rfl (Or.inl rfl) (de_mut (df_cat (de_var 6) (de_imm (df_lst (da_cons de_bl (da_cons de_bl (da_cons de_bl (da_cons de_bl da_nil))))))))) (dss_cons (ds_set (i := 10) sc.nd rfl (Or.inl rfl) (de_tup (da_cons (de_tup (da_cons de_int (da_cons (de_tup (da_cons de_str (da_cons de_str (da_cons de_str (da_cons de_int (da_cons de_int da_nil)))))) da_nil))) (da_cons (de_tup (da_cons de_int (da_cons (de_tup (da_cons de_str (da_cons de_str (da_cons de_int (da_cons de_int da_nil))))) da_nil))) (da_cons (de_tup (da_cons de_int (da_cons (de_var 1) da_nil))) (da_cons (de_tup (da_cons de_int (da_cons (de_var 1) da_nil))) da_nil)))))) (dss_cons (ds_set (i := 5) sc.nd rfl (Or.inl rfl) (de_mut (df_cat (de_var 5) (de_imm (df_lst (da_cons (de_call ((kn_can_lie T).mono (by omega)) hr rfl (da_cons (de_tup (da_cons de_int (da_cons de_int (da_cons de_int da_nil)))) (da_cons (de_var 10) da_nil)) (lenA_cons (lenA_cons lenA_nil))) (da_cons (de_call ((kn_can_lie T).mono (by omega)) hr rfl (da_cons (de_tup (da_cons de_int (da_cons de_int (da_cons de_int da_nil)))) (da_cons (de_var 10) da_nil)) (lenA_cons (lenA_cons lenA_nil))) (da_cons (de_call ((kn_bars T).mono (by omega)) hr rfl (da_cons (de_tup (da_cons de_int (da_cons de_int (da_cons de_int da_nil)))) (da_cons (de_var 10) (da_cons de_int da_nil))) (lenA_cons (lenA_cons (lenA_cons lenA_nil)))) (da_cons (de_call ((kn_can_lie T).mono (by omega)) hr rfl (da_cons (de_tup (da_cons de_int (da_cons de_int (da_cons de_int da_nil)))) (da_cons (de_tup (da_cons (de_var 2) (da_cons (de_var 2) da_nil))) da_nil)) (lenA_cons (lenA_cons lenA_nil))) (da_cons (de_call ((kn_can_lie T).mono (by omega)) hr rfl (da_cons (de_tup (da_cons de_int (da_cons de_int (da_cons de_int da_nil)))) (da_cons (de_tup (da_cons (de_tup (da_cons de_int (da_cons (de_var 1) da_nil))) (da_cons (de_var 2) da_nil))) da_nil)) (lenA_cons (lenA_cons lenA_nil))) da_nil)))))))))) (dss_cons (ds_set (i := 6) sc.nd rfl (Or.inl rfl) (de_mut (df_cat (de_var 6) (de_imm (df_lst (da_cons de_bl (da_cons de_bl (da_cons (de_tup (da_cons de_int da_nil)) (da_cons de_bl (da_cons de_bl da_nil)))))))))) (dss_cons (ds_set (i := 5) sc.nd rfl (Or.inl rfl) (de_mut (df_cat (de_var 5) (de_imm (df_lst (da_cons (de_call ((kn__law_heard T).mono (by omega)) hr rfl (da_cons de_int (da_cons (de_var 0) (da_cons (de_var 4) da_nil))) (lenA_cons (lenA_cons (lenA_cons lenA_nil)))) (da_cons (de_call ((kn__law_heard T).mono (by omega)) hr rfl (da_cons de_int (da_cons (de_var 0) (da_cons (de_var 3) da_nil))) (lenA_cons (lenA_cons (lenA_cons lenA_nil)))) (da_cons (de_callK ((knK_bars T).mono (by omega)) ord_g3 hr rfl (dk_cons de_int (dk_cons (de_call ((kn__law_lists T).mono (by omega)) hr rfl (da_cons (de_var 4) da_nil) (lenA_cons lenA_nil)) (dk_cons (de_imm (df_callTy call_list_of c_list rfl T.fr_list bt_list (da_cons (de_var 0) da_nil))) dk_nil))) (lenA_cons (lenA_cons (lenA_cons lenA_nil))) (by decide) len_g3) da_nil)))))))) (dss_cons (ds_set (i := 6) sc.nd rfl (Or.inl rfl) (de_mut (df_cat (de_var 6) (de_imm (df_lst (da_cons (de_imm (df_lst (da_cons de_str (da_cons de_bl da_nil)))) (da_cons (de_imm (df_lst (da_cons de_str (da_cons de_bl da_nil)))) (da_cons (de_tup (da_cons de_int da_nil)) da_nil)))))))) (dss_cons (ds_expr (de_append (de_var 5) (de_imm (df_lc (own := [("_law_own", 11), ("_law_its", 12)]) rfl sc.nd (di_sq (de_tup (da_cons (de_tup (da_cons (de_var 0) (da_cons (de_var 4) da_nil))) (da_cons (de_tup (da_cons (de_tup (da_cons de_int (da_cons de_int (da_cons de_int da_nil)))) (da_cons (de_var 10) da_nil))) (da_cons (de_tup (da_cons (de_tup (da_cons de_int (da_cons de_int (da_cons de_int da_nil)))) (da_cons (de_tup (da_cons (de_var 2) (da_cons (de_var 2) da_nil))) da_nil))) da_nil))))) (blkOk_by (own := [("_law_own", 11), ("_law_its", 12)]) (by kernel_rfl)) (fun s H C cl fp => (dn_tup rfl (dns_cons (dn_name (i := 11) sc.nd rfl (Or.inl rfl)) (dns_cons (dn_name (i := 12) sc.nd rfl (Or.inl rfl)) dns_nil)) (lenN_cons (lenN_cons lenN_nil)))) (fun s H C cl fp => dts_nil) (fun s H C cl fp => (de_call ((kn__law_is_reason T).mono (by omega)) hr rfl (da_cons (de_var 11) (da_cons (de_var 12) (da_cons (de_call ((kn__law_heard T).mono (by omega)) hr rfl (da_cons de_int (da_cons (de_var 11) (da_cons (de_var 12) da_nil))) (lenA_cons (lenA_cons (lenA_cons lenA_nil)))) da_nil))) (lenA_cons (lenA_cons (lenA_cons lenA_nil))))) (inN_tup (inN_cons (inN_name (by decide)) (inN_cons (inN_name (by decide)) inN_nil))))))) (dss_one (ds_ret (de_call ((kn__law_same T).mono (by omega)) hr rfl (da_cons (de_var 5) (da_cons (de_imm (df_cat (de_var 6) (de_imm (df_lst (da_cons (de_imm (df_rep (de_imm (df_lst (da_cons de_bl da_nil))) de_int)) da_nil))))) da_nil)) (lenA_cons (lenA_cons lenA_nil))))))))))))))))))))))))))
theorem sc__law_judged_right : FnScope ["_law_tin", "_law_form", "_law_face_here", "_law_rows_so", "_law_lies", "_law_tale", "_law_why", "_law_n", "_law_k", "_law_bent", "_law_things", "_law_due", "_law_own"] ["_law_tin", "_law_form", "_law_face_here"] (defScope (topS 100)) := ⟨rfl, rfl, rfl, by decide +kernel, rfl, by decide +kernel, by decide +kernel⟩
theorem kn__law_judged_right {P : Program} {w : World} {K : PySem.W.Frag} {mg : Str → Option Value} {base : Heap} (T : Top K mg) : Kn P w K mg base 18 "_law_judged_right" ["_law_tin", "_law_form", "_law_face_here"] g__law_judged_right := by
  obtain ⟨fd, F⟩ := T.says.def_ 80 (d := dD__law_judged_right) rfl
  exact Kn.trimG (kn_of (N := ["_law_tin", "_law_form", "_law_face_here", "_law_rows_so", "_law_lies", "_law_tale", "_law_why", "_law_n", "_law_k", "_law_bent", "_law_things", "_law_due", "_law_own"]) (m := m__law_judged_right) F (T.glo 80) sc__law_judged_right (F.bindsN fun _ _ _ _ _ _ us hl => match us, hl with | [_, _, _], _ => rfl) (fun cdv A outer s H E hr => have sc := sc__law_judged_right; have hu := hu_of hr; have hv := hv_of hr; (dss_cons (ds_setImm (ps_setC (i := 3) (own := [("_law_n", 7)]) rfl sc.nd rfl rfl rfl (di_range1 rfl T.fr_range (de_bin (op_mul.or op_mulT) o_mulA (de_ix (de_var 1) de_int fun _ _ => rfl) (de_ix (de_var 1) de_int fun _ _ => rfl))) (blkOk_by (own := [("_law_n", 7)]) (by kernel_rfl)) (fun s H C cl fp => (dn_name (i := 7) sc.nd rfl (Or.inl rfl))) (fun s H C cl fp => dts_nil) (fun s H C cl fp => (de_call ((kn__law_bars T).mono (by omega)) hr rfl (da_cons (de_var 1) (da_cons (de_var 2) (da_cons (de_var 7) da_nil))) (lenA_cons (lenA_cons (lenA_cons lenA_nil)))))) (inN_name (by decide))) (dss_cons (ds_set (i := 4) sc.nd rfl (Or.inl rfl) (de_cmp (op_inB hu) (o_in false) (de_tup da_nil) (de_var 3) rfl)) (dss_cons (ds_if (dt_w (dw_or (dt_not (dt_val (de_call ((kn__law_same T).mono (by omega)) hr rfl (da_cons (de_imm (df_lc (own := [("_law_n", 7)]) rfl sc.nd (di_range1 rfl T.fr_range (de_callB call_lenA c_len rfl T.fr_len bt_len (da_cons (de_var 3) da_nil))) (blkOk_by (own := [("_law_n", 7)]) (by kernel_rfl)) (fun s H C cl fp => (dn_name (i := 7) sc.nd rfl (Or.inl rfl))) (fun s H C cl fp => dts_nil) (fun s H C cl fp => (de_call ((kn_bars T).mono (by omega)) hr rfl (da_cons (de_var 1) (da_cons (de_var 2) (da_cons (de_var 7) da_nil))) (lenA_cons (lenA_cons (lenA_cons lenA_nil))))) (inN_name (by decide)))) (da_cons (de_var 3) da_nil)) (lenA_cons (lenA_cons lenA_nil))))) (dw_or1 (dt_not (dt_val (de_call ((kn__law_same T).mono (by omega)) hr rfl (da_cons (de_call ((kn_can_lie T).mono (by omega)) hr rfl (da_cons (de_call ((kn__law_lists T).mono (by omega)) hr rfl (da_cons (de_var 1) da_nil) (lenA_cons lenA_nil)) (da_cons (de_call ((kn__law_lists T).mono (by omega)) hr rfl (da_cons (de_var 2) da_nil) (lenA_cons lenA_nil)) da_nil)) (lenA_cons (lenA_cons lenA_nil))) (da_cons (de_var 4) da_nil)) (lenA_cons (lenA_cons lenA_nil)))))))) (dss_one (ds_ret de_bl)) dss_nil) (dss_cons (ds_par (i := 5) (j := 6) rfl sc.nd rfl rfl (by decide) rfl rfl (da_cons (de_call ((kn__law_heard T).mono (by omega)) hr rfl (da_cons de_int (da_cons (de_var 1) (da_cons (de_var 2) da_nil))) (lenA_cons (lenA_cons (lenA_cons lenA_nil)))) (da_cons (de_call ((kn__law_heard T).mono (by omega)) hr rfl (da_cons de_int (da_cons (de_var 1) (da_cons (de_var 2) da_nil))) (lenA_cons (lenA_cons (lenA_cons lenA_nil)))) da_nil)) rfl) (dss_cons (ds_if (dt_not (dt_val (de_var 4))) (dss_cons (ds_if (dt_w (dw_or (dt_not (dt_val (de_call ((kn__law_same T).mono (by omega)) hr rfl (da_cons (de_var 5) (da_cons (de_imm (df_lst (da_cons de_str (da_cons de_bl da_nil)))) da_nil)) (lenA_cons (lenA_cons lenA_nil))))) (dw_or1 (dt_not (dt_val (de_call ((kn__law_is_reason T).mono (by omega)) hr rfl (da_cons (de_var 1) (da_cons (de_var 2) (da_cons (de_var 6) da_nil))) (lenA_cons (lenA_cons (lenA_cons lenA_nil))))))))) (dss_one (ds_ret de_bl)) dss_nil) (dss_cons (ds_set (i := 7) sc.nd rfl (Or.inl rfl) (de_call ((kn__law_take T).mono (by omega)) hr rfl (da_cons (de_var 0) (da_cons (de_callB call_lenA c_len rfl T.fr_len bt_len (da_cons (de_var 6) da_nil)) da_nil)) (lenA_cons (lenA_cons lenA_nil)))) (dss_cons (ds_set (i := 8) sc.nd rfl (Or.inl rfl) (de_call ((kn__law_take T).mono (by omega)) hr rfl (da_cons (de_var 0) (da_cons (de_ix (de_var 1) de_int fun _ _ => rfl) da_nil)) (lenA_cons (lenA_cons lenA_nil)))) (dss_cons (ds_set (i := 9) sc.nd rfl (Or.inl rfl) (de_bin (op_add.or op_catA) o_add (de_bin (op_add.or op_catA) o_add (de_sl (de_var 6) do_none (do_some (de_var 7))) (de_tup (da_cons (de_var 8) da_nil))) (de_sl (de_var 6) (do_some (de_bin (op_add.or op_catA) o_add (de_var 7) de_int)) do_none))) (dss_cons (ds_set (i := 10) sc.nd rfl (Or.inl rfl) (de_imm (df_lst (da_cons (de_var 6) (da_cons (de_var 9) (da_cons (de_sl (de_var 6) (do_some de_int) do_none) (da_cons (de_bin (op_add.or op_catA) o_add (de_var 6) (de_sl (de_var 6) do_none (do_some de_int))) (da_cons (de_imm (df_callTy call_list_of c_list rfl T.fr_list bt_list (da_cons (de_var 6) da_nil))) (da_cons de_non da_nil))))))))) (dss_one (ds_ret (de_call ((kn__law_same T).mono (by omega)) hr rfl (da_cons (de_imm (df_lc (own := [("_law_own", 12)]) rfl sc.nd (di_sq (de_var 10)) (blkOk_by (own := [("_law_own", 12)]) (by kernel_rfl)) (fun s H C cl fp => (dn_name (i := 12) sc.nd rfl (Or.inl rfl))) (fun s H C cl fp => dts_nil) (fun s H C cl fp => (de_call ((kn_is_reason T).mono (by omega)) hr rfl (da_cons (de_var 1) (da_cons (de_var 2) (da_cons (de_var 12) da_nil))) (lenA_cons (lenA_cons (lenA_cons lenA_nil))))) (inN_name (by decide)))) (da_cons (de_imm (df_lc (own := [("_law_own", 12)]) rfl sc.nd (di_sq (de_var 10)) (blkOk_by (own := [("_law_own", 12)]) (by kernel_rfl)) (fun s H C cl fp => (dn_name (i := 12) sc.nd rfl (Or.inl rfl))) (fun s H C cl fp => dts_nil) (fun s H C cl fp => (de_call ((kn__law_is_reason T).mono (by omega)) hr rfl (da_cons (de_var 1) (da_cons (de_var 2) (da_cons (de_var 12) da_nil))) (lenA_cons (lenA_cons (lenA_cons lenA_nil))))) (inN_name (by decide)))) da_nil)) (lenA_cons (lenA_cons lenA_nil)))))))))) dss_nil) (dss_cons (ds_if (dt_w (dw_or (dt_not (dt_val (de_call ((kn__law_same T).mono (by omega)) hr rfl (da_cons (de_var 6) (da_cons (de_imm (df_lst (da_cons de_str (da_cons de_bl da_nil)))) da_nil)) (lenA_cons (lenA_cons lenA_nil))))) (dw_or (dt_not (dt_val (de_call ((kn__law_same T).mono (by omega)) hr rfl (da_cons (de_call ((kn__law_face_behind T).mono (by omega)) hr rfl (da_cons (de_var 1) (da_cons (de_var 5) da_nil)) (lenA_cons (lenA_cons lenA_nil))) (da_cons (de_var 2) da_nil)) (lenA_cons (lenA_cons lenA_nil))))) (dw_or (dt_cmp (op_eqD hv) o_eq (de_var 5) (de_tup da_nil) rfl) (dw_or1 (dt_cmp (op_neD hv) o_ne (de_ix (de_ix (de_var 5) (de_neg de_int) fun _ _ => rfl) de_int fun _ _ => rfl) de_str rfl)))))) (dss_one (ds_ret de_bl)) dss_nil) (dss_cons (ds_if (dt_cmp op_gt o_int (de_callB call_lenA c_len rfl T.fr_len bt_len (da_cons (de_var 5) da_nil)) (de_bin (op_add.or op_catA) o_add (de_bin (op_add.or op_catA) o_add (de_bin (op_mul.or op_mulT) o_mulA (de_bin (op_add.or op_catA) o_add (de_ix (de_var 1) de_int fun _ _ => rfl) de_int) (de_ix (de_var 1) de_int fun _ _ => rfl)) (de_ix (de_var 1) de_int fun _ _ => rfl)) de_int) rfl) (dss_one (ds_ret de_bl)) dss_nil) (dss_cons (ds_set (i := 7) sc.nd rfl (Or.inl rfl) (de_call ((kn__law_take T).mono (by omega)) hr rfl (da_cons (de_var 0) (da_cons (de_callB call_lenA c_len rfl T.fr_len bt_len (da_cons (de_var 5) da_nil)) da_nil)) (lenA_cons (lenA_cons lenA_nil)))) (dss_cons (ds_set (i := 10) sc.nd rfl (Or.inl rfl) (de_imm (df_lst (da_cons (de_var 5) (da_cons (de_bin (op_add.or op_catA) o_add (de_sl (de_var 5) do_none (do_some (de_var 7))) (de_sl (de_var 5) (do_some (de_bin (op_add.or op_catA) o_add (de_var 7) de_int)) do_none)) (da_cons (de_bin (op_add.or op_catA) o_add (de_bin (op_add.or op_catA) o_add (de_sl (de_var 5) do_none (do_some (de_var 7))) (de_tup (da_cons (de_tup (da_cons de_str da_nil)) da_nil))) (de_sl (de_var 5) (do_some (de_var 7)) do_none)) (da_cons (de_sl (de_var 5) do_none (do_some (de_neg de_int))) (da_cons (de_bin (op_add.or op_catA) o_add (de_var 5) (de_tup (da_cons (de_tup (da_cons de_str da_nil)) da_nil))) (da_cons (de_imm (df_callTy call_list_of c_list rfl T.fr_list bt_list (da_cons (de_var 5) da_nil))) (da_cons (de_bin (op_add.or op_catA) o_add (de_bin (op_add.or op_catA) o_add (de_sl (de_var 5) do_none (do_some (de_var 7))) (de_tup (da_cons (de_tup (da_cons de_str (da_cons (de_tup da_nil) da_nil))) da_nil))) (de_sl (de_var 5) (do_some (de_var 7)) do_none)) da_nil)))))))))) (dss_cons (ds_set (i := 11) sc.nd rfl (Or.inl rfl) (de_mut (df_lst da_nil))) (dss_cons (ds_for PassesOwn.never rfl (di_sq (de_var 10)) (dn_name (i := 12) sc.nd rfl (Or.inl rfl)) (dss_one (ds_expr (de_append (de_var 11) (de_and (de_callB call_isiA c_isi rfl T.fr_isinstance bt_isinstance (da_cons (de_var 12) (da_cons (de_ty (n := .tuple) rfl T.fr_tuple bt_tuple) da_nil))) (de_one (de_call ((kn__law_same T).mono (by omega)) hr rfl (da_cons (de_call ((kn__law_face_behind T).mono (by omega)) hr rfl (da_cons (de_var 1) (da_cons (de_var 12) da_nil)) (lenA_cons (lenA_cons lenA_nil))) (da_cons (de_var 2) da_nil)) (lenA_cons (lenA_cons lenA_nil))))))))) (dss_one (ds_ret (de_call ((kn__law_same T).mono (by omega)) hr rfl (da_cons (de_imm (df_lc (own := [("_law_own", 12)]) rfl sc.nd (di_sq (de_var 10)) (blkOk_by (own := [("_law_own", 12)]) (by kernel_rfl)) (fun s H C cl fp => (dn_name (i := 12) sc.nd rfl (Or.inl rfl))) (fun s H C cl fp => dts_nil) (fun s H C cl fp => (de_call ((kn_is_life_to T).mono (by omega)) hr rfl (da_cons (de_var 1) (da_cons (de_var 2) (da_cons (de_var 12) da_nil))) (lenA_cons (lenA_cons (lenA_cons lenA_nil))))) (inN_name (by decide)))) (da_cons (de_var 11) da_nil)) (lenA_cons (lenA_cons lenA_nil))))))))))))))))))
theorem sc__law_right : FnScope ["_law_tin", "_law_form", "_law_lap_here", "_law_face_here", "_law_k", "_law_wide_so", "_law_tale", "_law_got", "_law_far_so"] ["_law_tin"] (defScope (topS 101)) := ⟨rfl, rfl, rfl, by decide +kernel, rfl, by decide +kernel, by decide +kernel⟩
theorem kn__law_right {P : Program} {w : World} {K : PySem.W.Frag} {mg : Str → Option Value} {base : Heap} (T : Top K mg) : Kn P w K mg base 19 "_law_right" ["_law_tin"] g__law_right := by
  obtain ⟨fd, F⟩ := T.says.def_ 81 (d := dD__law_right) rfl
  exact Kn.trimG (kn_of (N := ["_law_tin", "_law_form", "_law_lap_here", "_law_face_here", "_law_k", "_law_wide_so", "_law_tale", "_law_got", "_law_far_so"]) (m := m__law_right) F (T.glo 81) sc__law_right (F.bindsN fun _ _ _ _ _ _ us hl => match us, hl with | [_], _ => rfl) (fun cdv A outer s H E hr => have sc := sc__law_right; have hu := hu_of hr; have hv := hv_of hr; (dss_cons (ds_set (i := 1) sc.nd rfl (Or.inl rfl) (de_call ((kn__law_any_form T).mono (by omega)) hr rfl (da_cons (de_var 0) (da_cons de_int da_nil)) (lenA_cons (lenA_cons lenA_nil)))) (dss_cons (ds_for PassesOwn.never rfl (di_range1 rfl T.fr_range de_int) (dn_name (i := 2) sc.nd rfl (Or.inl rfl)) (dss_cons (ds_set (i := 3) sc.nd rfl (Or.inl rfl) (de_mut (df_callTy call_list_of c_list rfl T.fr_list bt_list (da_cons (de_call ((kn__law_any_face T).mono (by omega)) hr rfl (da_cons (de_var 0) (da_cons (de_var 1) da_nil)) (lenA_cons (lenA_cons lenA_nil))) da_nil)))) (dss_cons (ds_for PassesOwn.never rfl (di_sq (de_call ((kn__law_pick T).mono (by omega)) hr rfl (da_cons (de_var 0) (da_cons (de_imm (df_listRg rfl rfl T.fr_list rfl T.fr_range (de_ix (de_var 1) de_int fun _ _ => rfl))) (da_cons (de_bin (op_mul.or op_mulT) o_mulA (de_var 2) (de_bin (op_add.or op_catA) o_add de_int (de_call ((kn__law_take T).mono (by omega)) hr rfl (da_cons (de_var 0) (da_cons de_int da_nil)) (lenA_cons (lenA_cons lenA_nil))))) da_nil))) (lenA_cons (lenA_cons (lenA_cons lenA_nil))))) (dn_name (i := 4) sc.nd rfl (Or.inl rfl)) (dss_one (ds_asgG (de_tup (da_cons (de_call ((kn__law_take T).mono (by omega)) hr rfl (da_cons (de_var 0) (da_cons (de_ix (de_var 1) de_int fun _ _ => rfl) da_nil)) (lenA_cons (lenA_cons lenA_nil))) (da_cons (de_call ((kn__law_note T).mono (by omega)) hr rfl (da_cons (de_var 0) da_nil) (lenA_cons lenA_nil)) da_nil))) (dg_sub (de_var 3) (de_var 4))))) (dss_one (ds_if (dt_not (dt_val (de_call ((kn__law_judged_right T).mono (by omega)) hr rfl (da_cons (de_var 0) (da_cons (de_var 1) (da_cons (de_callTy call_tuple_of c_tuple rfl T.fr_tuple bt_tuple (da_cons (de_var 3) da_nil)) da_nil))) (lenA_cons (lenA_cons (lenA_cons lenA_nil)))))) (dss_one (ds_ret de_bl)) dss_nil))))) (dss_cons (ds_set (i := 5) sc.nd rfl (Or.inl rfl) (de_bin (op_add.or op_catA) o_add de_int (de_call ((kn__law_take T).mono (by omega)) hr rfl (da_cons (de_var 0) (da_cons de_int da_nil)) (lenA_cons (lenA_cons lenA_nil))))) (dss_cons (ds_set (i := 1) sc.nd rfl (Or.inl rfl) (de_tup (da_cons (de_var 5) (da_cons (de_bin (op_add.or op_catA) o_add de_int (de_call ((kn__law_take T).mono (by omega)) hr rfl (da_cons (de_var 0) (da_cons (de_bin op_sub o_sub (de_var 5) de_int) da_nil)) (lenA_cons (lenA_cons lenA_nil)))) (da_cons (de_call ((kn__law_of T).mono (by omega)) hr rfl (da_cons (de_var 0) (da_cons (de_imm (df_lst (da_cons de_int (da_cons de_int (da_cons de_int (da_cons de_int (da_cons de_int (da_cons de_int da_nil)))))))) da_nil)) (lenA_cons (lenA_cons lenA_nil))) da_nil))))) (dss_cons (ds_asgN (de_call ((kn__law_drawn_life T).mono (by omega)) hr rfl (da_cons (de_var 0) (da_cons (de_var 1) (da_cons de_int da_nil))) (lenA_cons (lenA_cons (lenA_cons lenA_nil)))) (dn_tup rfl (dns_cons (dn_name (i := 6) sc.nd rfl (Or.inl rfl)) (dns_cons (dn_name (i := 3) sc.nd rfl (Or.inl rfl)) dns_nil)) (lenN_cons (lenN_cons lenN_nil)))) (dss_cons (ds_set (i := 7) sc.nd rfl (Or.inl rfl) (de_imm (df_lst (da_cons (de_call ((kn_can_lie T).mono (by omega)) hr rfl (da_cons (de_var 1) (da_cons (de_var 3) da_nil)) (lenA_cons (lenA_cons lenA_nil))) (da_cons (de_call ((kn_is_life_to T).mono (by omega)) hr rfl (da_cons (de_var 1) (da_cons (de_var 3) (da_cons (de_var 6) da_nil))) (lenA_cons (lenA_cons (lenA_cons lenA_nil)))) (da_cons (de_callK ((knK_is_life_to T).mono (by omega)) ord_g3 hr rfl (dk_cons (de_var 6) (dk_cons (de_call ((kn__law_lists T).mono (by omega)) hr rfl (da_cons (de_var 3) da_nil) (lenA_cons lenA_nil)) (dk_cons (de_var 1) dk_nil))) (lenA_cons (lenA_cons (lenA_cons lenA_nil))) (by decide) len_g3) da_nil)))))) (dss_cons (ds_if (dt_w (dw_or (dt_not (dt_val (de_call ((kn__law_same T).mono (by omega)) hr rfl (da_cons (de_var 7) (da_cons (de_imm (df_rep (de_imm (df_lst (da_cons de_bl da_nil))) de_int)) da_nil)) (lenA_cons (lenA_cons lenA_nil))))) (dw_or1 (dt_not (dt_val (de_call ((kn__law_judged_right T).mono (by omega)) hr rfl (da_cons (de_var 0) (da_cons (de_var 1) (da_cons (de_var 3) da_nil))) (lenA_cons (lenA_cons (lenA_cons lenA_nil))))))))) (dss_one (ds_ret de_bl)) dss_nil) (dss_cons (ds_set (i := 8) sc.nd rfl (Or.inl rfl) (de_call ((kn__law_any_face T).mono (by omega)) hr rfl (da_cons (de_var 0) (da_cons (de_var 1) da_nil)) (lenA_cons (lenA_cons lenA_nil)))) (dss_one (ds_ret (de_call ((kn__law_same T).mono (by omega)) hr rfl (da_cons (de_call ((kn_is_life_to T).mono (by omega)) hr rfl (da_cons (de_var 1) (da_cons (de_var 8) (da_cons (de_var 6) da_nil))) (lenA_cons (lenA_cons (lenA_cons lenA_nil)))) (da_cons (de_call ((kn__law_same T).mono (by omega)) hr rfl (da_cons (de_var 8) (da_cons (de_var 3) da_nil)) (lenA_cons (lenA_cons lenA_nil))) da_nil)) (lenA_cons (lenA_cons lenA_nil)))))))))))))))
theorem sc_law : FnScope ["_law_script"] ["_law_script"] (defScope (topS 102)) := ⟨rfl, rfl, rfl, by decide +kernel, rfl, by decide +kernel, by decide +kernel⟩
theorem kn_law {P : Program} {w : World} {K : PySem.W.Frag} {mg : Str → Option Value} {base : Heap} (T : Top K mg) : Kn P w K mg base 20 "law" ["_law_script"] g_law := by
  obtain ⟨fd, F⟩ := T.says.def_ 82 (d := dD_law) rfl
  exact kn_of (N := ["_law_script"]) (m := m_law) F (T.glo 82) sc_law (F.bindsN fun _ _ _ _ _ _ us hl => match us, hl with | [_], _ => rfl) (fun cdv A outer s H E hr => have sc := sc_law; have hu := hu_of hr; have hv := hv_of hr; (dss_one (ds_ret (de_and (de_call0 ((kn__law_by_hand_right T).mono (by omega)) hr rfl) (de_one (de_call ((kn__law_right T).mono (by omega)) hr rfl (da_cons (de_call ((kn__law_box T).mono (by omega)) hr rfl (da_cons (de_call ((kn__law_cells T).mono (by omega)) hr rfl (da_cons (de_var 0) (da_cons de_int da_nil)) (lenA_cons (lenA_cons lenA_nil))) (da_cons de_int da_nil)) (lenA_cons (lenA_cons lenA_nil))) da_nil) (lenA_cons lenA_nil)))))))
end K15
set_option Elab.async false
set_option linter.all false
set_option maxRecDepth 100000
set_option maxHeartbeats 0
namespace K15
open PySem PySem.Spec PyProof.Rows L2
def nms0 : List PySem.Str := ["CanNot", "Unfit", "SIGNS", "LONGEST", "TORN_devices", "OLD", "NEW_devices", "TORN_log", "BLANK_log", "NEW_log", "BLANK_examiner", "is_number", "is_from", "is_within", "is_long", "tupled", "is_word", "is_key", "is_single", "is_record", "is_shape", "sure_shape", "mark_in", "place_in", "is_told_cell", "is_cell_in", "is_picture_in", "sure_picture", "are_fates", "fallen"]
def nms1 : List PySem.Str := ["view_in", "sure_both", "sure_place", "shows_in", "run_in", "places_in", "gaps_in", "far_in", "answer_in", "synced_in", "logged_in", "stood_in", "writes_at", "begun_life", "behind_awake", "behind_asleep", "life_in", "bars_in", "bars", "all_bars", "can_lie_in", "can_lie", "stood_record", "flown_at", "life_to", "is_life_to", "reason", "is_reason", "_law_box", "_law_take"]
def nms2 : List PySem.Str := ["_law_cells", "_law_of", "_law_pick", "_law_lists", "_law_same", "_law_lap", "_law_shows", "_law_wholes", "_law_answer", "_law_blank", "_law_face", "_law_gear", "_law_stand", "_law_write", "_law_fates", "_law_fallen", "_law_cut", "_law_mending", "_law_mend", "_law_any_form", "_law_note", "_law_any_face", "_law_bars", "_law_is_note", "_law_are_fates", "_law_went", "_law_face_behind", "_law_drawn_life", "_law_heard", "_law_by_hand_right"]
def nms3 : List PySem.Str := ["_law_is_reason", "_law_judged_right", "_law_right"]
def nms : List PySem.Str := nms0 ++ nms1 ++ nms2 ++ nms3
abbrev R : PySem.W.OpenRow := PySem.W.OpenLaw.row PySem.Challenge.rw_halfring_k15_whole_life_or_reason
abbrev hk : PySem.W.Hook := He.hookX 2 fa fn [] [] ex
def ob (s : PySem.W.SharedT) : He.AlX := He.obsX 2 fa fn [] [] ex (HandSHeadRun.getT s)
theorem ob_eq (s : PySem.W.SharedT) : ob s = hk.obs s.abs := He.obsX_eq (HandSHeadRun.getT_eq s)
theorem run (w : World) : HandSHeadRun.RunEq R (PySem.W.view R.prog [102]) hk ob 20000 nms w := by
  intro os
  kernel_rfl
theorem fn_of {P : Program} {w : World} {K : PySem.W.Frag} {mg : Str → Option Value} {base : Heap} {x qual : Str} {params : Arguments} {body : List Stmt} {scope : Scope} {f : Addr} {fd : FuncData} {N ps : List Str} {k : Nat} {m : MS} (F : FunD K x qual params body scope [] [] f fd) (S : FnScope N ps scope)
    (h : ∀ (cdv : Value) (A : Around) (outer : List Env) (s : Shared) (H : Hp) (E : XK), Room k (A.deeper (envOfC qual scope s.heap.objs.size f cdv)) → DSs (cxOf CX0 P w K mg base N qual scope f cdv A outer s H E).nox body m) :
    FnOk P w K mg base CX0 (k + 1) f fd ps (spD K ps.length (sem N.length m)) := by
  refine F.ok S (fun vs H Q E q => q.1) fun cdv A outer s H vs Q E hr q => ?_
  refine ⟨_, PSs.nox (h cdv A outer s H E hr).run, ?_⟩
  obtain ⟨hl, α, ξ, St, ws, w', S', rs, rv, e, p⟩ := q
  obtain ⟨⟨fl, S1⟩, e1, e⟩ := bind_some e
  refine ⟨α, ξ, St, startD N.length ws, fl, S1, rs, re_start N rv, e1, ?_⟩
  cases fl with
  | rt w1 =>
    cases e
    exact fun α' v H' x r q => p α' v H' x r q
  | nx δ =>
    cases e
    exact fun α' σ' H' x r q => p α' .non H' x r RD.non
  | bk δ => cases e
  | ct δ => cases e
theorem fn_law {P : Program} {w : World} {K : PySem.W.Frag} {mg : Str → Option Value} (T : Top K mg) : ∃ (f : Addr) (fd : FuncData), mg "law" = some (.ref f) ∧ (∀ (s : Shared) (u : Value), BindsTo s fd ⟨[u], []⟩ [("_law_script", u)]) ∧ ∀ base : Heap, FnOk P w K mg base CX0 20 f fd ["_law_script"] (spD K 1 g_law) := by
  obtain ⟨fd, F⟩ := T.says.def_ 82 (d := dD_law) rfl
  have b := FunD.bindsA (ps := ["_law_script"]) F fun _ _ _ _ _ _ us hl => match us, hl with | [_], _ => rfl
  refine ⟨_, fd, T.glo 82, fun s u => b s [u] rfl, fun base => ?_⟩
  exact fn_of (N := ["_law_script"]) (m := m_law) F sc_law (fun cdv A outer s H E hr => have sc := sc_law; have hu := hu_of hr; have hv := hv_of hr; (dss_one (ds_ret (de_and (de_call0 ((kn__law_by_hand_right T).mono (by omega)) hr rfl) (de_one (de_call ((kn__law_right T).mono (by omega)) hr rfl (da_cons (de_call ((kn__law_box T).mono (by omega)) hr rfl (da_cons (de_call ((kn__law_cells T).mono (by omega)) hr rfl (da_cons (de_var 0) (da_cons de_int da_nil)) (lenA_cons (lenA_cons lenA_nil))) (da_cons de_int da_nil)) (lenA_cons (lenA_cons lenA_nil))) da_nil) (lenA_cons lenA_nil)))))))
theorem only_sql {K : PySem.W.Frag} {H : Hp} {a : Addr} {ns : List Int} (o : Only H) (h : SqL K H a (ns.map V.int)) : RW K [] [] H (.ref a) (.scr ns) := by
  refine ⟨a, rfl, ?_⟩
  rcases h with (h | ⟨ob, h⟩) | h
  · rcases o a with e | ⟨ob, xs, e⟩
    · rw [h] at e; cases e
    · rw [h] at e; cases e
  · exact .inr (.inl ⟨ob, h⟩)
  · exact .inr (.inr fun H0 => .inr h)
theorem rs_nil {K : PySem.W.Frag} {H : Hp} : RS K [] [] [] H := ⟨rfl, List.nodup_nil, fun i a ws h _ => by simp at h, fun a h => by simp at h, fun a h => by simp at h⟩
theorem law_sp {K : PySem.W.Frag} {H : Hp} {a : Addr} {ns : List Int} (hl : ns.length ≤ 63) (o : Only H) (h : SqL K H a (ns.map V.int)) : spD K 1 g_law [.ref a] H (fun v _ => v = .bl true) fun _ _ _ => False := by
  obtain ⟨S', e⟩ := v_law ns (by omega)
  refine ⟨rfl, [], [], [], [.scr ns], .d (.bool true), S', rs_nil, .cons (only_sql o h) .nil, e, fun α' v H' _ _ r => ?_⟩
  cases r
  rfl
end K15
open PySem PySem.W PySem.Calls PyProof.Rows
theorem PySem.Challenge.cw_halfring_k15_whole_life_or_reason_holds : PySem.Challenge.rw_halfring_k15_whole_life_or_reason.Holds := by
  w_on; o_law
  refine HandSHeadRun.head_any (r := OpenLaw.row PySem.Challenge.rw_halfring_k15_whole_life_or_reason) (q := view (OpenLaw.row PySem.Challenge.rw_halfring_k15_whole_life_or_reason).prog [102]) (H := K15.hk) (ob := K15.ob) (M := 20000) (loose := K15.nms) (d := HandSHeadRun.topDef (OpenLaw.row PySem.Challenge.rw_halfring_k15_whole_life_or_reason).prog 102) (kwd := []) K15.ob_eq
    (by kernel_rfl) (fun s => by kernel_rfl) K15.run (by kernel_rfl) (by kernel_rfl) (by kernel_rfl) (by rfl) (by first | assumption | decide +kernel) (by decide +kernel) ⟨rfl, rfl, rfl, rfl, rfl, by decide +kernel⟩ ?hw ?hc
  case hw => w_witness2
  case hc =>
    refine L2.walk_ofE (l := PySem.Challenge.rw_halfring_k15_whole_life_or_reason) (n := 63) (k := 20) (x := "_law_script") (CX := L2.CX0) rfl (by decide) (by kernel_rfl) ⟨rfl, by decide, by decide⟩ ?F (fun _ _ _ _ z => z)
    intro w mg fa h Y G hmg0
    obtain ⟨K, KX, c⟩ := Y
    have hmg : mg ("law" : PySem.Str) = some (.ref fa) := by
      have e : (HandSHeadRun.topDef (OpenLaw.row PySem.Challenge.rw_halfring_k15_whole_life_or_reason).prog 102).name = ("law" : PySem.Str) := by kernel_rfl
      rw [← e]
      exact hmg0
    have T : K15.Top K mg := ⟨c.t.d, ⟨h, KX, G⟩, c.more⟩
    obtain ⟨f, fd, hf, hb, hF⟩ := K15.fn_law (P := (PySem.Challenge.rw_halfring_k15_whole_life_or_reason).prog) (w := w) T
    have ef := hmg.symm.trans hf
    cases ef
    exact ⟨K, fd, K15.spD K 1 K15.g_law, KX, hb, fun H a ns hl o hS => K15.law_sp hl o hS, fun base _ _ => hF base⟩
