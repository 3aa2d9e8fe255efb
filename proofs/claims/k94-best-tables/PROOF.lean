import PyProof.Rows.All
import Wide.All
import OpenK.AllK
import Wide.FinOn
import HandS.ForMost
import HandS.More
import HandS.IsInst
import HandS.TupAny
import HandS.Conv
import HandS.SortRule
import HandS.SortInts
import HandS.Flow
import HandS.Iter
import HandS.Defaults
import HandS.HeadHook2
import HandS.Head0
import HandS.Head1
import HandS.Head2
import HandS.HeadEnd
import PySem.Challenge.RW_judgedplay_k94_best_tables
set_option Elab.async false
set_option linter.all false
set_option maxRecDepth 100000
set_option maxHeartbeats 4000000
/-! FL1: data D, objects O, stores, results R; how a heap bears a store (Sim), how it grows (Ext); functional readings tG. -/
namespace FL
open PySem PySem.Spec PyProof.Rows L2

/-- data: what a name may hold. loc n: the n-th mutable object of the store -/
inductive D where
  | non | bl (b : Bool) | int (i : Int) | str (x : Str) | ty (n : String) | tup (xs : List D) | loc (n : Nat)
/-- mutable objects -/
inductive O where
  | lst (xs : List D) | dK (kvs : List (Key × D)) | dT (kvs : List (List Key × D)) | ins (C : Addr) (fs : List (Str × D))
  /-- a dict that is walked: read, not written -/
  | fK (kvs : List (Key × D)) | fT (kvs : List (List Key × D))
abbrev Sto := List O
abbrev Sd := List (Option D)
/-- results: a value and the store behind it; an exception (its class, the fields of its own dict); stuck -/
inductive R (α : Type) where
  | ok (a : α) (S : Sto) | exc (c : Value) (fs : Option (List (Str × D))) (S : Sto) | bad
def R.bind {α β : Type} (r : R α) (k : α → Sto → R β) : R β := match r with
  | .ok a S => k a S
  | .exc c fs S => .exc c fs S
  | .bad => .bad
@[simp] theorem R.bind_ok {α β : Type} (a : α) (S : Sto) (k : α → Sto → R β) : (R.ok a S).bind k = k a S := rfl
@[simp] theorem R.bind_exc {α β : Type} (c fs S) (k : α → Sto → R β) : (R.exc c fs S).bind k = .exc c fs S := rfl
@[simp] theorem R.bind_bad {α β : Type} (k : α → Sto → R β) : (R.bad).bind k = .bad := rfl

/-- a branch; its ways are not looked into ahead of it -/
def brK {α β : Type} (c : Bool) (a b : Sd → α → β) (σ : Sd) (S : α) : β := match c with
  | true => a σ S
  | false => b σ S
@[simp] theorem brK_true {α β : Type} (a b : Sd → α → β) (σ S) : brK true a b σ S = a σ S := rfl
@[simp] theorem brK_false {α β : Type} (a b : Sd → α → β) (σ S) : brK false a b σ S = b σ S := rfl

mutual
inductive Rep (H : Hp) (ρ : List Addr) : V → D → Prop
  | non : Rep H ρ .non .non
  | bl (b : Bool) : Rep H ρ (.bl b) (.bl b)
  | int (i : Int) : Rep H ρ (.int i) (.int i)
  | str (x : Str) : Rep H ρ (.str x) (.str x)
  | ty (n : String) : Rep H ρ (.ty n) (.ty n)
  | tup {a : Addr} {xs : List V} {ds : List D} : H a = some (.tup xs) → Reps H ρ xs ds → Rep H ρ (.ref a) (.tup ds)
  | loc {a : Addr} {n : Nat} : ρ[n]? = some a → Rep H ρ (.ref a) (.loc n)
inductive Reps (H : Hp) (ρ : List Addr) : List V → List D → Prop
  | nil : Reps H ρ [] []
  | cons {v : V} {vs : List V} {d : D} {ds : List D} : Rep H ρ v d → Reps H ρ vs ds → Reps H ρ (v :: vs) (d :: ds)
end
def RepF {κ : Type} (H : Hp) (ρ : List Addr) : List (κ × V) → List (κ × D) → Prop := Paired fun p q => p.1 = q.1 ∧ Rep H ρ p.2 q.2
def RepO (H : Hp) (ρ : List Addr) (a : Addr) : O → Prop
  | .lst ds => ∃ xs, H a = some (.lst xs) ∧ Reps H ρ xs ds
  | .dK kvs => ∃ ks, H a = some (.dK ks) ∧ RepF H ρ ks kvs
  | .dT kvs => ∃ ks, H a = some (.dT ks) ∧ RepF H ρ ks kvs
  | .ins C fs => ∃ dx gs, H a = some (.ins C dx gs) ∧ RepF H ρ gs fs
  | .fK kvs => ∃ od ks, H a = some (.frz od (.dK ks)) ∧ RepF H ρ ks kvs
  | .fT kvs => ∃ od ks, H a = some (.frz od (.dT ks)) ∧ RepF H ρ ks kvs
def isM : HO → Bool
  | .lst _ => true | .dK _ => true | .dT _ => true | .ins _ _ _ => true | .frz _ _ => true | _ => false
theorem RepO.m {H : Hp} {ρ : List Addr} {a : Addr} {o : O} (h : RepO H ρ a o) : ∃ u, H a = some u ∧ isM u = true := by
  cases o with
  | lst _ => obtain ⟨xs, e, _⟩ := h; exact ⟨_, e, rfl⟩
  | dK _ => obtain ⟨xs, e, _⟩ := h; exact ⟨_, e, rfl⟩
  | dT _ => obtain ⟨xs, e, _⟩ := h; exact ⟨_, e, rfl⟩
  | ins _ _ => obtain ⟨dx, xs, e, _⟩ := h; exact ⟨_, e, rfl⟩
  | fK _ => obtain ⟨dx, xs, e, _⟩ := h; exact ⟨_, e, rfl⟩
  | fT _ => obtain ⟨dx, xs, e, _⟩ := h; exact ⟨_, e, rfl⟩

structure Ext (ρ : List Addr) (H : Hp) (ρ' : List Addr) (H' : Hp) : Prop where
  pre : ρ <+: ρ'
  new : ∀ b ∈ ρ', b ∉ ρ → H b = none
  fr : ∀ b o, H b = some o → b ∉ ρ → H' b = some o
  fz : ∀ b o u, H b = some (.frz o u) → H' b = some (.frz o u)
structure Sim (ρ : List Addr) (S : Sto) (H : Hp) : Prop where
  len : ρ.length = S.length
  nd : ρ.Nodup
  at_ : ∀ (n : Nat) (o : O), S[n]? = some o → ∃ a, ρ[n]? = some a ∧ RepO H ρ a o
theorem Ext.refl {ρ H} : Ext ρ H ρ H := ⟨List.prefix_refl _, fun _ h n => absurd h n, fun _ _ h _ => h, fun _ _ _ h => h⟩
theorem Ext.trans {ρ ρ1 ρ2 H H1 H2} (a : Ext ρ H ρ1 H1) (b : Ext ρ1 H1 ρ2 H2) : Ext ρ H ρ2 H2 := by
  have new : ∀ c ∈ ρ2, c ∉ ρ → H c = none := fun c h n => by
    by_cases h1 : c ∈ ρ1
    · exact a.new c h1 n
    · have e := b.new c h h1
      cases q : H c with
      | none => rfl
      | some o => rw [a.fr c o q n] at e; cases e
  refine ⟨a.pre.trans b.pre, new, fun c o h n => ?_, fun c o u h => b.fz c o u (a.fz c o u h)⟩
  refine b.fr c o (a.fr c o h n) fun h1 => ?_
  rw [a.new c h1 n] at h; cases h
theorem prefix_get {α : Type} {l l' : List α} (h : l <+: l') {n : Nat} {a : α} (e : l[n]? = some a) : l'[n]? = some a := by
  obtain ⟨t, rfl⟩ := h
  have hn : n < l.length := by
    rcases Nat.lt_or_ge n l.length with h | h
    · exact h
    · rw [List.getElem?_eq_none h] at e; cases e
  rw [List.getElem?_append_left hn]; exact e
theorem Sim.mem {ρ S H b} (s : Sim ρ S H) (hb : b ∈ ρ) : ∃ u, H b = some u ∧ isM u = true := by
  obtain ⟨n, hn, rfl⟩ := List.getElem_of_mem hb
  have hS : n < S.length := by rw [← s.len]; exact hn
  obtain ⟨a, e, r⟩ := s.at_ n _ (List.getElem?_eq_getElem hS)
  rw [List.getElem?_eq_getElem hn] at e
  cases e
  exact r.m
theorem Sim.nmem {ρ S H b o} (s : Sim ρ S H) (e : H b = some o) (hm : isM o = false) : b ∉ ρ := fun hb => by
  obtain ⟨u, e1, e2⟩ := s.mem hb
  rw [e] at e1; cases e1; rw [hm] at e2; cases e2
theorem Sim.fresh {ρ S H b} (s : Sim ρ S H) (e : H b = none) : b ∉ ρ := fun hb => by
  obtain ⟨u, e1, e2⟩ := s.mem hb
  rw [e] at e1; cases e1
mutual
theorem Rep.mono {ρ ρ' H H'} (hp : ρ <+: ρ') (ht : ∀ a xs, H a = some (.tup xs) → H' a = some (.tup xs)) : ∀ {v d}, Rep H ρ v d → Rep H' ρ' v d
  | _, _, .non => .non
  | _, _, .bl b => .bl b
  | _, _, .int i => .int i
  | _, _, .str i => .str i
  | _, _, .ty i => .ty i
  | _, _, .tup e r => .tup (ht _ _ e) (Reps.mono hp ht r)
  | _, _, .loc e => .loc (prefix_get hp e)
theorem Reps.mono {ρ ρ' H H'} (hp : ρ <+: ρ') (ht : ∀ a xs, H a = some (.tup xs) → H' a = some (.tup xs)) : ∀ {v d}, Reps H ρ v d → Reps H' ρ' v d
  | _, _, .nil => .nil
  | _, _, .cons r t => .cons (Rep.mono hp ht r) (Reps.mono hp ht t)
end
theorem RepF.mono {κ : Type} {ρ ρ' H H'} (hp : ρ <+: ρ') (ht : ∀ a xs, H a = some (.tup xs) → H' a = some (.tup xs)) {gs : List (κ × V)} {fs : List (κ × D)} (h : RepF H ρ gs fs) : RepF H' ρ' gs fs :=
  Paired.mapP h fun _ _ ⟨e, r⟩ => ⟨e, r.mono hp ht⟩
theorem Sim.tup {ρ S H ρ' H'} (s : Sim ρ S H) (e : Ext ρ H ρ' H') : ∀ a xs, H a = some (.tup xs) → H' a = some (.tup xs) := fun a xs h => e.fr a _ h (s.nmem h rfl)
theorem Rep.ext {ρ S H ρ' H' v d} (r : Rep H ρ v d) (s : Sim ρ S H) (e : Ext ρ H ρ' H') : Rep H' ρ' v d := r.mono e.pre (s.tup e)
theorem Reps.ext {ρ S H ρ' H' v d} (r : Reps H ρ v d) (s : Sim ρ S H) (e : Ext ρ H ρ' H') : Reps H' ρ' v d := r.mono e.pre (s.tup e)
theorem RepO.mono {ρ ρ' H H' a} (hp : ρ <+: ρ') (ht : ∀ a xs, H a = some (.tup xs) → H' a = some (.tup xs)) (ha : ∀ u, H a = some u → H' a = some u) {o : O} (h : RepO H ρ a o) : RepO H' ρ' a o := by
  cases o with
  | lst _ => obtain ⟨xs, e, r⟩ := h; exact ⟨xs, ha _ e, r.mono hp ht⟩
  | dK _ => obtain ⟨xs, e, r⟩ := h; exact ⟨xs, ha _ e, r.mono hp ht⟩
  | dT _ => obtain ⟨xs, e, r⟩ := h; exact ⟨xs, ha _ e, r.mono hp ht⟩
  | ins _ _ => obtain ⟨dx, xs, e, r⟩ := h; exact ⟨dx, xs, ha _ e, r.mono hp ht⟩
  | fK _ => obtain ⟨dx, xs, e, r⟩ := h; exact ⟨dx, xs, ha _ e, r.mono hp ht⟩
  | fT _ => obtain ⟨dx, xs, e, r⟩ := h; exact ⟨dx, xs, ha _ e, r.mono hp ht⟩

/-! ### the four steps of a heap -/
/-- nothing tracked is laid that the store should know (a tuple, ..) -/
theorem Sim.lay {ρ S H p o} (s : Sim ρ S H) (hp : H p = none) : Ext ρ H ρ (upd H p o) ∧ Sim ρ S (upd H p o) := by
  have e : Ext ρ H ρ (upd H p o) := ⟨List.prefix_refl _, fun _ h n => absurd h n, fun b u h _ => by rw [upd_ne (ne_of_none h hp)]; exact h, fun b o u h => by rw [upd_ne (ne_of_none h hp)]; exact h⟩
  refine ⟨e, s.len, s.nd, fun n u h => ?_⟩
  obtain ⟨a, e1, r⟩ := s.at_ n u h
  exact ⟨a, e1, r.mono (List.prefix_refl _) (s.tup e) fun u h => by rw [upd_ne (ne_of_none h hp)]; exact h⟩
/-- a new object -/
theorem Sim.new {ρ S H p o u} (s : Sim ρ S H) (hp : H p = none) (hr : RepO (upd H p u) ρ p o) : Ext ρ H (ρ ++ [p]) (upd H p u) ∧ Sim (ρ ++ [p]) (S ++ [o]) (upd H p u) := by
  have np : p ∉ ρ := s.fresh hp
  have e : Ext ρ H (ρ ++ [p]) (upd H p u) := ⟨List.prefix_append _ _, fun b h n => by
      rcases List.mem_append.mp h with h | h
      · exact absurd h n
      · rw [List.mem_singleton.mp h]; exact hp, fun b u h _ => by rw [upd_ne (ne_of_none h hp)]; exact h, fun b o u h => by rw [upd_ne (ne_of_none h hp)]; exact h⟩
  have tt : ∀ a xs, (upd H p u) a = some (.tup xs) → (upd H p u) a = some (.tup xs) := fun _ _ h => h
  refine ⟨e, by simp [s.len], ?_, fun n w h => ?_⟩
  · refine List.nodup_append.mpr ⟨s.nd, by simp, fun a ha b hb => ?_⟩
    rintro rfl
    exact np (by rw [← List.mem_singleton.mp hb]; exact ha)
  · by_cases hn : n < S.length
    · rw [List.getElem?_append_left hn] at h
      obtain ⟨a, e1, r⟩ := s.at_ n w h
      exact ⟨a, prefix_get e.pre e1, r.mono e.pre (s.tup e) fun u h => by rw [upd_ne (ne_of_none h hp)]; exact h⟩
    · have hn2 : n = S.length := by
        have : n < (S ++ [o]).length := by
          rcases Nat.lt_or_ge n (S ++ [o]).length with h' | h'
          · exact h'
          · rw [List.getElem?_eq_none h'] at h; cases h
        simp at this; omega
      subst hn2
      have h2 : o = w := by simpa using h
      subst h2
      refine ⟨p, by rw [← s.len]; simp, hr.mono e.pre tt fun u h => h⟩
/-- an object is changed -/
def noFz : HO → Bool
  | .frz _ _ => false
  | _ => true
theorem Sim.set {ρ S H a n o u w} (s : Sim ρ S H) (ha : ρ[n]? = some a) (hw : H a = some w) (hf : noFz w = true) (hr : RepO (upd H a u) ρ a o) : Ext ρ H ρ (upd H a u) ∧ Sim ρ (S.set n o) (upd H a u) := by
  have hm : a ∈ ρ := List.mem_of_getElem? ha
  have e : Ext ρ H ρ (upd H a u) := ⟨List.prefix_refl _, fun _ h n => absurd h n, fun b x h hb => by rw [upd_ne (fun z => hb (by rw [z]; exact hm))]; exact h, fun b x y h => by rw [upd_ne (fun z => by rw [z, hw] at h; cases h; cases hf)]; exact h⟩
  refine ⟨e, by simp [s.len], s.nd, fun k x h => ?_⟩
  by_cases hk : n = k
  · subst hk
    have hS : n < S.length := by
      rw [← s.len]
      rcases Nat.lt_or_ge n ρ.length with h' | h'
      · exact h'
      · rw [List.getElem?_eq_none h'] at ha; cases ha
    rw [List.getElem?_set_self hS] at h
    cases h
    exact ⟨a, ha, hr⟩
  · rw [List.getElem?_set_ne hk] at h
    obtain ⟨b, e1, r⟩ := s.at_ k x h
    have hb : b ≠ a := by
      rintro rfl
      have hn1 : n < ρ.length := by
        rcases Nat.lt_or_ge n ρ.length with h' | h'
        · exact h'
        · rw [List.getElem?_eq_none h'] at ha; cases ha
      exact hk ((List.getElem?_inj hn1 s.nd).mp (by rw [ha, e1]))
    exact ⟨b, e1, r.mono (List.prefix_refl _) (s.tup e) fun u h => by rw [upd_ne hb]; exact h⟩

/-! ### places -/
structure SRep (H : Hp) (ρ : List Addr) (σ : L2.St) (σd : Sd) : Prop where
  len : σd.length = σ.length
  at_ : ∀ (i : Nat) (d : D), σd[i]? = some (some d) → ∃ v, σ[i]? = some (some v) ∧ Rep H ρ v d
theorem SRep.ext {ρ S H ρ' H' σ σd} (r : SRep H ρ σ σd) (s : Sim ρ S H) (e : Ext ρ H ρ' H') : SRep H' ρ' σ σd :=
  ⟨r.len, fun i d h => let ⟨v, e1, q⟩ := r.at_ i d h; ⟨v, e1, q.ext s e⟩⟩
theorem SRep.set {ρ H σ σd v d} (r : SRep H ρ σ σd) (q : Rep H ρ v d) (i : Nat) : SRep H ρ (σ.set i (some v)) (σd.set i (some d)) := by
  refine ⟨by simp [r.len], fun k x h => ?_⟩
  by_cases hk : i = k
  · subst hk
    have hl : i < σd.length := by
      rcases Nat.lt_or_ge i σd.length with h' | h'
      · exact h'
      · rw [List.getElem?_eq_none (by simpa using h')] at h; cases h
    rw [List.getElem?_set_self hl] at h
    cases h
    exact ⟨v, List.getElem?_set_self (by rw [← r.len]; exact hl), q⟩
  · rw [List.getElem?_set_ne hk] at h
    rw [List.getElem?_set_ne hk]
    exact r.at_ k x h

/-! ### what is wanted behind a result -/
def RepX (H : Hp) (ρ : List Addr) : Option Addr → Option (List (Str × D)) → Prop
  | none, none => True
  | some a, some fs => ∃ gs, H a = some (.xd gs) ∧ RepF H ρ gs fs
  | _, _ => False
def PX (E : XK) (ρ : List Addr) (H : Hp) (c : Value) (fs : Option (List (Str × D))) (S' : Sto) : Prop :=
  ∀ dx ρ' H', Ext ρ H ρ' H' → Sim ρ' S' H' → RepX H' ρ' dx fs → E c dx H'
def PostG {α β : Type} (rel : Hp → List Addr → β → α → Prop) (E : XK) (ρ : List Addr) (H : Hp) (Q : β → Hp → Prop) : R α → Prop
  | .ok d S' => ∀ v ρ' H', Ext ρ H ρ' H' → Sim ρ' S' H' → rel H' ρ' v d → Q v H'
  | .exc c fs S' => PX E ρ H c fs S'
  | .bad => False
theorem PX.weak {E ρ H ρ1 H1 c fs S'} (h : PX E ρ H c fs S') (e : Ext ρ H ρ1 H1) : PX E ρ1 H1 c fs S' := fun dx ρ' H' e' s r => h dx ρ' H' (e.trans e') s r
section
variable {α β γ δ : Type} {rel : Hp → List Addr → β → α → Prop} {rel2 : Hp → List Addr → δ → γ → Prop} {E : XK} {ρ ρ1 : List Addr} {H H1 : Hp} {Q Q' : β → Hp → Prop}
theorem PostG.weak {r : R α} (h : PostG rel E ρ H Q r) (e : Ext ρ H ρ1 H1) : PostG rel E ρ1 H1 Q r := by
  cases r with
  | ok d S' => exact fun v ρ' H' e' s q => h v ρ' H' (e.trans e') s q
  | exc c fs S' => exact PX.weak h e
  | bad => exact h
theorem PostG.mono {r : R α} (h : PostG rel E ρ H Q r) (hq : ∀ v H', Q v H' → Q' v H') : PostG rel E ρ H Q' r := by
  cases r with
  | ok d S' => exact fun v ρ' H' e' s q => hq _ _ (h v ρ' H' e' s q)
  | exc c fs S' => exact h
  | bad => exact h
theorem PostG.bind {m : R α} {k : α → Sto → R γ} {Q : δ → Hp → Prop} (h : PostG rel2 E ρ H Q (m.bind k)) :
    PostG rel E ρ H (fun v H1 => ∃ ρ1 S1 x, Ext ρ H ρ1 H1 ∧ Sim ρ1 S1 H1 ∧ rel H1 ρ1 v x ∧ PostG rel2 E ρ1 H1 Q (k x S1)) m := by
  cases m with
  | ok d S' => exact fun v ρ' H' e s q => ⟨ρ', S', d, e, s, q, PostG.weak h e⟩
  | exc c fs S' => exact h
  | bad => exact h
/-- a value that is at hand -/
theorem PostG.here {d : α} {S : Sto} {v : β} (h : PostG rel E ρ H Q (.ok d S)) (s : Sim ρ S H) (r : rel H ρ v d) : Q v H := h v ρ H .refl s r
end
/-- a functional reading -/
def tG {α β : Type} (rel : Hp → List Addr → β → α → Prop) (E : XK) (m : Sd → Sto → R α) : L2.St → Hp → (β → Hp → Prop) → Prop :=
  fun σ H Q => ∃ ρ S σd, Sim ρ S H ∧ SRep H ρ σ σd ∧ PostG rel E ρ H Q (m σd S)
abbrev relB : Hp → List Addr → Bool → Bool → Prop := fun _ _ b c => b = c
abbrev tF (E : XK) (m : Sd → Sto → R D) : TE := tG Rep E m
abbrev tFT (E : XK) (m : Sd → Sto → R Bool) : TT := tG relB E m
abbrev tFA (E : XK) (m : Sd → Sto → R (List D)) : TA := tG Reps E m
abbrev Me := Sd → Sto → R D
abbrev Mt := Sd → Sto → R Bool
abbrev Ma := Sd → Sto → R (List D)
abbrev FE (X : Cx) (E : XK) (e : Expr) (m : Me) : Prop := PE X e (tF E m)
abbrev FT (X : Cx) (E : XK) (e : Expr) (m : Mt) : Prop := PT X e (tFT E m)
abbrev FA (X : Cx) (E : XK) (es : List Expr) (m : Ma) : Prop := PA X es (tFA E m)
section
variable {X : Cx} {e : Expr} {t t' : TE} {es : List Expr} {tt tt' : TT} {ta ta' : TA} {st : Stmt} {sts : List Stmt} {ts ts' : TS}
theorem pe_imp (h : PE X e t) (i : ∀ σ H Q, t' σ H Q → t σ H Q) : PE X e t' := ⟨fun pins s σ H Q I hw => h.run pins s σ H Q I (i _ _ _ hw)⟩
theorem pt_imp (h : PT X e tt) (i : ∀ σ H Q, tt' σ H Q → tt σ H Q) : PT X e tt' := ⟨fun pins s σ H Q I hw => h.run pins s σ H Q I (i _ _ _ hw)⟩
theorem pw_imp (h : PW X e tt) (i : ∀ σ H Q, tt' σ H Q → tt σ H Q) : PW X e tt' := ⟨fun wh pins s σ H Q I hw => h.run wh pins s σ H Q I (i _ _ _ hw)⟩
theorem pa_imp (h : PA X es ta) (i : ∀ σ H Q, ta' σ H Q → ta σ H Q) : PA X es ta' := ⟨fun pos pins s σ H Q I hw => h.run pos pins s σ H Q I (i _ _ _ hw)⟩
theorem ps_imp (h : PS X st ts) (i : ∀ D σ H, ts' D σ H → ts D σ H) : PS X st ts' := ⟨fun pins s σ H D I hw => h.run pins s σ H D I (i _ _ _ hw)⟩
theorem pss_imp (h : PSs X sts ts) (i : ∀ D σ H, ts' D σ H → ts D σ H) : PSs X sts ts' := ⟨fun pins s σ H D I hw => h.run pins s σ H D I (i _ _ _ hw)⟩
end
section
variable {α β γ δ : Type} {rel : Hp → List Addr → β → α → Prop} {rel2 : Hp → List Addr → δ → γ → Prop} {E : XK} {σ : L2.St} {H : Hp}
/-- one reading behind another -/
theorem tG_bind {m : Sd → Sto → R α} {k : Sd → α → Sto → R γ} {Q : δ → Hp → Prop} {Q' : β → Hp → Prop} (h : tG rel2 E (fun σd S => (m σd S).bind (k σd)) σ H Q)
    (go : ∀ v H1 ρ1 S1 σd x, Sim ρ1 S1 H1 → SRep H1 ρ1 σ σd → rel H1 ρ1 v x → PostG rel2 E ρ1 H1 Q (k σd x S1) → Q' v H1) : tG rel E m σ H Q' := by
  obtain ⟨ρ, S, σd, s, r, h⟩ := h
  refine ⟨ρ, S, σd, s, r, PostG.mono (PostG.bind h) fun v H1 ⟨ρ1, S1, x, e, s1, q, h1⟩ => ?_⟩
  exact go v H1 ρ1 S1 σd x s1 (r.ext s e) q h1
end
end FL
set_option Elab.async false
set_option linter.all false
set_option maxRecDepth 100000
set_option maxHeartbeats 4000000
/-! FL2: functional readings of expressions. -/
namespace FL
open PySem PySem.Spec PyProof.Rows L2

/-! ### names, constants -/
@[simp] def mVar (i : Nat) (σ : Sd) (S : Sto) : R D := match σ[i]? with
  | some (some d) => .ok d S
  | _ => .bad
@[simp] def mC (d : D) (_ : Sd) (S : Sto) : R D := .ok d S
section
variable {X : Cx} {E : XK} {pos : Pos}
theorem fe_var {i : Nat} {x : Str} (hN : X.N[i]? = some x) (hv : Vis X.env.scope x) (hd : (x == ("__debug__" : Str)) = false := by decide) (hcd : (x == ("__classdict__" : Str)) = false := by decide) : FE X E (.Name x pos) (mVar i) :=
  pe_imp (pe_var hN hv hd hcd) fun σ H Q ⟨ρ, S, σd, s, r, h⟩ => by
    unfold mVar at h
    split at h
    · rename_i d e
      obtain ⟨v, e1, q⟩ := r.at_ i d e
      exact ⟨v, e1, h.here s q⟩
    · exact h.elim
theorem fe_c {e : Expr} {v : V} {d : D} (h : PE X e (tC v)) (hr : ∀ H ρ, Rep H ρ v d) : FE X E e (mC d) :=
  pe_imp h fun σ H Q ⟨ρ, S, σd, s, r, h⟩ => h.here s (hr _ _)
theorem fe_int {i j} : FE X E (.Constant (.int i) j pos) (mC (.int i)) := fe_c pe_int fun _ _ => .int _
theorem fe_bl {i j} : FE X E (.Constant (.bool i) j pos) (mC (.bl i)) := fe_c pe_bl fun _ _ => .bl _
theorem fe_non {j} : FE X E (.Constant .none j pos) (mC .non) := fe_c pe_non fun _ _ => .non
theorem fe_str {i j} : FE X E (.Constant (.str i) j pos) (mC (.str i)) := fe_c pe_str fun _ _ => .str _
theorem fe_ty {x : Str} {n : String} (hg : Gl X x) (hm : X.mg x = none) (hv : bootBuiltins x = some (.type n)) (hn : x ≠ "__name__" := by decide) (hd : (x == ("__debug__" : Str)) = false := by decide) : FE X E (.Name x pos) (mC (.ty n)) :=
  fe_c (pe_bltn (v := .ty n) hg hm hv rfl hn hd) fun _ _ => .ty _
end

/-! ### two places, one place -/
abbrev Fn2 := D → D → Sto → R D
abbrev Fn1 := D → Sto → R D
abbrev FnL := List D → Sto → R D
@[simp] def opK (f : Fn2) (b : Me) (σ : Sd) (x : D) (S1 : Sto) : R D := (b σ S1).bind (f x)
@[simp] def mOp (f : Fn2) (a b : Me) (σ : Sd) (S : Sto) : R D := (a σ S).bind (opK f b σ)
@[simp] def mUn (f : Fn1) (a : Me) (σ : Sd) (S : Sto) : R D := (a σ S).bind f
def R2Ok (E : XK) (r : R2) (f : Fn2) : Prop := ∀ ρ S H x y dx dy Q, Sim ρ S H → Rep H ρ x dx → Rep H ρ y dy → PostG Rep E ρ H Q (f dx dy S) → r x y H Q
def R1Ok (E : XK) (r : V → Hp → VK → Prop) (f : Fn1) : Prop := ∀ ρ S H x dx Q, Sim ρ S H → Rep H ρ x dx → PostG Rep E ρ H Q (f dx S) → r x H Q
def RnOk (E : XK) (r : List V → Hp → VK → Prop) (f : FnL) : Prop := ∀ ρ S H xs ds Q, Sim ρ S H → Reps H ρ xs ds → PostG Rep E ρ H Q (f ds S) → r xs H Q
structure OpF (X : Cx) (E : XK) (g : Value → Value → Sem Value) (f : Fn2) : Prop where
  ex : ∃ r, OpR X g r ∧ R2Ok E r f
structure UnF (X : Cx) (E : XK) (g : Value → Sem Value) (f : Fn1) : Prop where
  ex : ∃ r, UnR X g r ∧ R1Ok E r f
structure CallF (X : Cx) (E : XK) (g : Value) (f : FnL) : Prop where
  ex : ∃ r, CallR X g r ∧ RnOk E r f
section
variable {X : Cx} {E : XK} {pos : Pos} {a b c : Expr} {ma mb mc : Me}
theorem tOp_of {r : R2} {f : Fn2} (hr : R2Ok E r f) {σ H Q} (h : tF E (mOp f ma mb) σ H Q) : tOp r (tF E ma) (tF E mb) σ H Q := by
  obtain ⟨ρ, S, σd, s, r, h⟩ := h
  exact ⟨ρ, S, σd, s, r, (PostG.bind (rel := Rep) h).mono fun x H1 ⟨ρ1, S1, dx, e1, s1, q1, h1⟩ => ⟨ρ1, S1, σd, s1, r.ext s e1, (PostG.bind (rel := Rep) h1).mono fun y H2 ⟨ρ2, S2, dy, e2, s2, q2, h2⟩ =>
    hr ρ2 S2 H2 x y dx dy Q s2 (q1.ext s1 e2) q2 h2⟩⟩
theorem tUn_of {r : V → Hp → VK → Prop} {f : Fn1} (hr : R1Ok E r f) {σ H Q} (h : tF E (mUn f ma) σ H Q) : tUn r (tF E ma) σ H Q := by
  obtain ⟨ρ, S, σd, s, r, h⟩ := h
  exact ⟨ρ, S, σd, s, r, (PostG.bind (rel := Rep) h).mono fun x H1 ⟨ρ1, S1, dx, e1, s1, q1, h1⟩ => hr ρ1 S1 H1 x dx Q s1 q1 h1⟩
theorem fe_op {op : Operator} {f : Fn2} (ho : OpF X E (binaryOp op) f) (ha : FE X E a ma) (hb : FE X E b mb) : FE X E (.BinOp a op b pos) (mOp f ma mb) := by
  obtain ⟨r, h1, h2⟩ := ho.ex
  exact pe_imp (pe_op h1 ha hb) fun σ H Q h => tOp_of h2 h
theorem fe_un {op : UnaryOp} {f : Fn1} (ho : UnF X E (unaryOp op) f) (ha : FE X E a ma) : FE X E (.UnaryOp op a pos) (mUn f ma) := by
  obtain ⟨r, h1, h2⟩ := ho.ex
  exact pe_imp (pe_un h1 ha) fun σ H Q h => tUn_of h2 h
theorem fe_cmp {op : CmpOp} {f : Fn2} (ho : OpF X E (compareOp op) f) (ha : FE X E a ma) (hb : FE X E b mb) (hm : behindInMarks op b = false) : FE X E (.Compare a [op] [b] pos) (mOp f ma mb) := by
  obtain ⟨r, h1, h2⟩ := ho.ex
  exact pe_imp (pe_cmpR h1 ha hb hm) fun σ H Q h => tOp_of h2 h
/-! tests -/
@[simp] def asB : D → Sto → R Bool
  | .bl b, S => .ok b S
  | _, _ => .bad
@[simp] def mTest (m : Me) (σ : Sd) (S : Sto) : R Bool := (m σ S).bind asB
theorem asB_post {ρ S H x d} {Q : Bool → Hp → Prop} (s : Sim ρ S H) (r : Rep H ρ x d) (h : PostG relB E ρ H Q (asB d S)) : ∃ c, x = .bl c ∧ Q c H := by
  cases d with
  | bl b => cases r; exact ⟨b, rfl, h.here s rfl⟩
  | _ => exact h.elim
theorem tTest_of {σ H Q} (h : tFT E (mTest ma) σ H Q) : tTest (tF E ma) σ H Q := by
  obtain ⟨ρ, S, σd, s, r, h⟩ := h
  exact ⟨ρ, S, σd, s, r, (PostG.bind (rel := Rep) h).mono fun x H1 ⟨ρ1, S1, dx, e1, s1, q1, h1⟩ => asB_post s1 q1 h1⟩
/-- an expression whose value is a bool, as a test -/
theorem ft_val (h : FE X E a ma) (he : ∀ whole, isTrue a X.env whole = (do let v ← whole; standAt a.pos; holding [v] (truthy v)) := by intro _; rfl) : FT X E a (mTest ma) :=
  pt_imp (pt_val h he) fun σ H Q h => tTest_of h
theorem ft_cmp {op : CmpOp} {f : Fn2} (ho : OpF X E (compareOp op) f) (ha : FE X E a ma) (hb : FE X E b mb) (hm : behindInMarks op b = false) : FT X E (.Compare a [op] [b] pos) (mTest (mOp f ma mb)) := by
  obtain ⟨r, h1, h2⟩ := ho.ex
  refine pt_imp (pt_cmpR h1 ha hb hm) fun σ H Q h => ?_
  have h' := tTest_of h
  have := tOp_of (ma := ma) (mb := mb) h2 h'
  exact this
/-! and, or, not -/
def FW (X : Cx) (E : XK) (e : Expr) (m : Mt) : Prop := PW X e (tFT E m)
@[simp] def mCB (c : Bool) (_ : Sd) (S : Sto) : R Bool := .ok c S
@[simp] def andK (b : Mt) (σ : Sd) (x : Bool) (S1 : Sto) : R Bool := brK x b (mCB false) σ S1
@[simp] def mAnd (a b : Mt) (σ : Sd) (S : Sto) : R Bool := (a σ S).bind (andK b σ)
@[simp] def orK (b : Mt) (σ : Sd) (x : Bool) (S1 : Sto) : R Bool := brK x (mCB true) b σ S1
@[simp] def mOr (a b : Mt) (σ : Sd) (S : Sto) : R Bool := (a σ S).bind (orK b σ)
@[simp] def notK (x : Bool) (S1 : Sto) : R Bool := .ok (!x) S1
@[simp] def mNot (a : Mt) (σ : Sd) (S : Sto) : R Bool := (a σ S).bind notK
variable {ta tb : Mt} {rest : List Expr}
theorem fw_pt {e : Expr} (h : FW X E e ta) : FT X E e ta := PW.pt h
theorem fw_and1 (ha : FT X E a ta) : FW X E (.BoolOp .And [a] pos) ta := pw_and1 ha
theorem fw_or1 (ha : FT X E a ta) : FW X E (.BoolOp .Or [a] pos) ta := pw_or1 ha
theorem fw_and (ha : FT X E a ta) (hb : FW X E (.BoolOp .And (b :: rest) pos) tb) : FW X E (.BoolOp .And (a :: b :: rest) pos) (mAnd ta tb) :=
  pw_imp (pw_and ha hb) fun σ H Q ⟨ρ, S, σd, s, r, h⟩ => ⟨ρ, S, σd, s, r, (PostG.bind (rel := relB) h).mono fun x H1 ⟨ρ1, S1, dx, e1, s1, q1, h1⟩ => by
    cases (show x = dx from q1)
    cases x with
    | true => rw [if_pos rfl]; exact ⟨ρ1, S1, σd, s1, r.ext s e1, h1⟩
    | false => rw [if_neg Bool.false_ne_true]; exact h1.here s1 rfl⟩
theorem fw_or (ha : FT X E a ta) (hb : FW X E (.BoolOp .Or (b :: rest) pos) tb) : FW X E (.BoolOp .Or (a :: b :: rest) pos) (mOr ta tb) :=
  pw_imp (pw_or ha hb) fun σ H Q ⟨ρ, S, σd, s, r, h⟩ => ⟨ρ, S, σd, s, r, (PostG.bind (rel := relB) h).mono fun x H1 ⟨ρ1, S1, dx, e1, s1, q1, h1⟩ => by
    cases (show x = dx from q1)
    cases x with
    | false => rw [if_neg Bool.false_ne_true]; exact ⟨ρ1, S1, σd, s1, r.ext s e1, h1⟩
    | true => rw [if_pos rfl]; exact h1.here s1 rfl⟩
theorem ft_not (ha : FT X E a ta) : FT X E (.UnaryOp .Not a pos) (mNot ta) :=
  pt_imp (pt_not ha) fun σ H Q ⟨ρ, S, σd, s, r, h⟩ => ⟨ρ, S, σd, s, r, (PostG.bind (rel := relB) h).mono fun x H1 ⟨ρ1, S1, dx, e1, s1, q1, h1⟩ => by
    cases (show x = dx from q1)
    exact h1.here s1 rfl⟩
/-- .. as values, all but the last bools -/
@[simp] def andVK2 (b : Me) (σ : Sd) (x : Bool) (S1 : Sto) : R D := brK x b (mC (.bl false)) σ S1
@[simp] def andVK (b : Me) (σ : Sd) (x : D) (S1 : Sto) : R D := (asB x S1).bind (andVK2 b σ)
@[simp] def mAndV (a b : Me) (σ : Sd) (S : Sto) : R D := (a σ S).bind (andVK b σ)
@[simp] def orVK2 (b : Me) (σ : Sd) (x : Bool) (S1 : Sto) : R D := brK x (mC (.bl true)) b σ S1
@[simp] def orVK (b : Me) (σ : Sd) (x : D) (S1 : Sto) : R D := (asB x S1).bind (orVK2 b σ)
@[simp] def mOrV (a b : Me) (σ : Sd) (S : Sto) : R D := (a σ S).bind (orVK b σ)
@[simp] def notVK2 (x : Bool) (S1 : Sto) : R D := .ok (.bl (!x)) S1
@[simp] def notVK (x : D) (S1 : Sto) : R D := (asB x S1).bind notVK2
@[simp] def mNotV (a : Me) (σ : Sd) (S : Sto) : R D := (a σ S).bind notVK
theorem asB_bind {α : Type} {β : Type} {rel : Hp → List Addr → β → α → Prop} {ρ S H x d} {k : Bool → Sto → R α} {Q : β → Hp → Prop} (s : Sim ρ S H) (r : Rep H ρ x d) (h : PostG rel E ρ H Q ((asB d S).bind k)) : ∃ c, x = .bl c ∧ PostG rel E ρ H Q (k c S) := by
  cases d with
  | bl b => cases r; exact ⟨b, rfl, h⟩
  | _ => exact h.elim
theorem fe_one {op} (h : FE X E a ma) : FE X E (.BoolOp op [a] pos) ma := pe_one h
theorem fe_and (ha : FE X E a ma) (hb : FE X E (.BoolOp .And (b :: rest) pos) mb) : FE X E (.BoolOp .And (a :: b :: rest) pos) (mAndV ma mb) :=
  pe_imp (pe_and ha hb) fun σ H Q ⟨ρ, S, σd, s, r, h⟩ => ⟨ρ, S, σd, s, r, (PostG.bind (rel := Rep) h).mono fun x H1 ⟨ρ1, S1, dx, e1, s1, q1, h1⟩ => by
    obtain ⟨c, rfl, h2⟩ := asB_bind s1 q1 h1
    refine ⟨c, rfl, ?_⟩
    cases c with
    | true => rw [if_pos rfl]; exact ⟨ρ1, S1, σd, s1, r.ext s e1, h2⟩
    | false => rw [if_neg Bool.false_ne_true]; exact h2.here s1 (.bl _)⟩
theorem fe_or (ha : FE X E a ma) (hb : FE X E (.BoolOp .Or (b :: rest) pos) mb) : FE X E (.BoolOp .Or (a :: b :: rest) pos) (mOrV ma mb) :=
  pe_imp (pe_or ha hb) fun σ H Q ⟨ρ, S, σd, s, r, h⟩ => ⟨ρ, S, σd, s, r, (PostG.bind (rel := Rep) h).mono fun x H1 ⟨ρ1, S1, dx, e1, s1, q1, h1⟩ => by
    obtain ⟨c, rfl, h2⟩ := asB_bind s1 q1 h1
    refine ⟨c, rfl, ?_⟩
    cases c with
    | false => rw [if_neg Bool.false_ne_true]; exact ⟨ρ1, S1, σd, s1, r.ext s e1, h2⟩
    | true => rw [if_pos rfl]; exact h2.here s1 (.bl _)⟩
theorem fe_not (ha : FE X E a ma) : FE X E (.UnaryOp .Not a pos) (mNotV ma) :=
  pe_imp (pe_not ha) fun σ H Q ⟨ρ, S, σd, s, r, h⟩ => ⟨ρ, S, σd, s, r, (PostG.bind (rel := Rep) h).mono fun x H1 ⟨ρ1, S1, dx, e1, s1, q1, h1⟩ => by
    obtain ⟨c, rfl, h2⟩ := asB_bind s1 q1 h1
    exact ⟨c, rfl, h2.here s1 (.bl _)⟩⟩
@[simp] def ifeK (a b : Me) (σ : Sd) (x : Bool) (S1 : Sto) : R D := brK x a b σ S1
@[simp] def mIf (t : Mt) (a b : Me) (σ : Sd) (S : Sto) : R D := (t σ S).bind (ifeK a b σ)
theorem fe_if (hc : FT X E c ta) (ha : FE X E a ma) (hb : FE X E b mb) : FE X E (.IfExp c a b pos) (mIf ta ma mb) :=
  pe_imp (pe_ifExp hc ha hb) fun σ H Q ⟨ρ, S, σd, s, r, h⟩ => ⟨ρ, S, σd, s, r, (PostG.bind (rel := relB) h).mono fun x H1 ⟨ρ1, S1, dx, e1, s1, q1, h1⟩ => by
    cases (show x = dx from q1)
    cases x with
    | true => rw [if_pos rfl]; exact ⟨ρ1, S1, σd, s1, r.ext s e1, h1⟩
    | false => rw [if_neg Bool.false_ne_true]; exact ⟨ρ1, S1, σd, s1, r.ext s e1, h1⟩⟩

/-! ### lists of expressions, displays -/
@[simp] def aNil (_ : Sd) (S : Sto) : R (List D) := .ok [] S
@[simp] def consK2 (x : D) (xs : List D) (S2 : Sto) : R (List D) := .ok (x :: xs) S2
@[simp] def consK (t : Ma) (σ : Sd) (x : D) (S1 : Sto) : R (List D) := (t σ S1).bind (consK2 x)
@[simp] def aCons (a : Me) (t : Ma) (σ : Sd) (S : Sto) : R (List D) := (a σ S).bind (consK t σ)
variable {es : List Expr} {t : Ma}
theorem fa_nil : FA X E [] aNil := pa_imp pa_nil fun σ H Q ⟨ρ, S, σd, s, r, h⟩ => h.here s .nil
theorem fa_cons (ha : FE X E a ma) (hr : FA X E es t) (hs : starEach (a :: es) X.env = (false, eval a X.env) :: starEach es X.env := by rfl) : FA X E (a :: es) (aCons ma t) :=
  pa_imp (pa_cons ha hr hs) fun σ H Q ⟨ρ, S, σd, s, r, h⟩ => ⟨ρ, S, σd, s, r, (PostG.bind (rel := Rep) h).mono fun x H1 ⟨ρ1, S1, dx, e1, s1, q1, h1⟩ =>
    ⟨ρ1, S1, σd, s1, r.ext s e1, (PostG.bind (rel := Reps) h1).mono fun xs H2 ⟨ρ2, S2, ds, e2, s2, q2, h2⟩ => h2.here s2 (.cons (q1.ext s1 e2) q2)⟩⟩
@[simp] noncomputable def fTup (ds : List D) (S : Sto) : R D := if ds.length ≤ sizeLine then .ok (.tup ds) S else .bad
@[simp] noncomputable def fLst (ds : List D) (S : Sto) : R D := if ds.length ≤ sizeLine then .ok (.loc S.length) (S ++ [.lst ds]) else .bad
@[simp] def mL (f : FnL) (t : Ma) (σ : Sd) (S : Sto) : R D := (t σ S).bind f
theorem Reps.length {H ρ} : ∀ {vs ds}, Reps H ρ vs ds → vs.length = ds.length
  | _, _, .nil => rfl
  | _, _, .cons _ t => congrArg (· + 1) (Reps.length t)
theorem new_tup {ρ S H Q xs ds} (s : Sim ρ S H) (q : Reps H ρ xs ds) (h : PostG Rep E ρ H Q (.ok (.tup ds) S)) : ∀ p, H p = none → Q (.ref p) (upd H p (.tup xs)) := fun p hp => by
  obtain ⟨e, s2⟩ := s.lay (o := .tup xs) hp
  exact h _ ρ _ e s2 (.tup upd_same (q.ext s e))
theorem new_obj {ρ S H Q o u} (s : Sim ρ S H) (q : ∀ p, H p = none → RepO (upd H p u) ρ p o) (h : PostG Rep E ρ H Q (.ok (.loc S.length) (S ++ [o]))) : ∀ p, H p = none → Q (.ref p) (upd H p u) := fun p hp => by
  obtain ⟨e, s2⟩ := s.new hp (q p hp)
  exact h _ _ _ e s2 (.loc (by rw [← s.len]; simp))
theorem new_lst {ρ S H Q xs ds} (s : Sim ρ S H) (q : Reps H ρ xs ds) (h : PostG Rep E ρ H Q (.ok (.loc S.length) (S ++ [.lst ds]))) : ∀ p, H p = none → Q (.ref p) (upd H p (.lst xs)) :=
  new_obj (o := .lst ds) s (fun p hp => ⟨xs, upd_same, q.ext s (s.lay hp).1⟩) h
theorem fe_tup {x1} (ha : FA X E es t) : FE X E (.Tuple es x1 pos) (mL fTup t) :=
  pe_imp (pe_tup ha) fun σ H Q ⟨ρ, S, σd, s, r, h⟩ => ⟨ρ, S, σd, s, r, (PostG.bind (rel := Reps) h).mono fun xs H1 ⟨ρ1, S1, ds, e1, s1, q1, h1⟩ => by
    unfold fTup at h1
    split at h1
    · exact ⟨by rw [q1.length]; assumption, new_tup s1 q1 h1⟩
    · exact h1.elim⟩
theorem fe_lst (ha : FA X E es t) : FE X E (.List es pos) (mL fLst t) :=
  pe_imp (pe_lst ha) fun σ H Q ⟨ρ, S, σd, s, r, h⟩ => ⟨ρ, S, σd, s, r, (PostG.bind (rel := Reps) h).mono fun xs H1 ⟨ρ1, S1, ds, e1, s1, q1, h1⟩ => by
    unfold fLst at h1
    split at h1
    · exact ⟨by rw [q1.length]; assumption, new_lst s1 q1 h1⟩
    · exact h1.elim⟩

/-! ### calls of built-ins, of defs -/
variable {x : Str} {p : Pos} {e : Expr} {id : String} {f : FnL}
theorem fe_callB (hc : CallF X E (.builtin id) f) (hg : Gl X x) (hm : X.mg x = none) (hv : bootBuiltins x = some (.builtin id)) (ha : FA X E (e :: es) t) (hn : x ≠ "__name__" := by decide) (hdb : (x == ("__debug__" : Str)) = false := by decide)
    (he : starEach (e :: es) X.env = (false, eval e X.env) :: starEach es X.env := by rfl) (hpl : (backTo pos (starEach es X.env)).any (·.1) = false := by rfl) : FE X E (.Call (.Name x p) (e :: es) [] pos) (mL f t) := by
  obtain ⟨r, h1, h2⟩ := hc.ex
  exact pe_imp (pe_callB h1 hg hm hv ha hn hdb he hpl) fun σ H Q ⟨ρ, S, σd, s, r, h⟩ => ⟨ρ, S, σd, s, r, (PostG.bind (rel := Reps) h).mono fun xs H1 ⟨ρ1, S1, ds, e1, s1, q1, h1⟩ => h2 ρ1 S1 H1 xs ds Q s1 q1 h1⟩
theorem fe_callTy {T : String} (hc : CallF X E (.type T) f) (hg : Gl X x) (hm : X.mg x = none) (hv : bootBuiltins x = some (.type T)) (ha : FA X E (e :: es) t) (hn : x ≠ "__name__" := by decide) (hdb : (x == ("__debug__" : Str)) = false := by decide)
    (he : starEach (e :: es) X.env = (false, eval e X.env) :: starEach es X.env := by rfl) (hpl : (backTo pos (starEach es X.env)).any (·.1) = false := by rfl) : FE X E (.Call (.Name x p) (e :: es) [] pos) (mL f t) := by
  obtain ⟨r, h1, h2⟩ := hc.ex
  exact pe_imp (pe_callTy h1 hg hm hv ha hn hdb he hpl) fun σ H Q ⟨ρ, S, σd, s, r, h⟩ => ⟨ρ, S, σd, s, r, (PostG.bind (rel := Reps) h).mono fun xs H1 ⟨ρ1, S1, ds, e1, s1, q1, h1⟩ => h2 ρ1 S1 H1 xs ds Q s1 q1 h1⟩
/-- the promise that a def does what f does -/
def spF (f : FnL) : Sp := fun vs H Q E => ∃ ρ S ds, Sim ρ S H ∧ Reps H ρ vs ds ∧ PostG Rep E ρ H Q (f ds S)
variable {CX : CXT} {k : Nat} {fa : Addr} {fd : FuncData} {ps : List Str} {nn : Nat}
theorem fe_call (F : FnOk X.prog X.w X.K X.mg X.base CX k fa fd ps (spF f)) (hr : Room k X.A) (hg : Gl X x) (hm : X.mg x = some (.ref fa)) (hk : PySem.W.keepIn X.K (.ref fa) = true) (hb : Binds X.K fd ps []) (hx : Passes CX X E)
    (ha : FA X E (e :: es) t) (hdb : (x == ("__debug__" : Str)) = false := by decide) (he : starEach (e :: es) X.env = (false, eval e X.env) :: starEach es X.env := by rfl) (hpl : (backTo pos (starEach es X.env)).any (·.1) = false := by rfl) :
    FE X E (.Call (.Name x p) (e :: es) [] pos) (mL f t) :=
  pe_imp (pe_call F hr hg hm hk hb .nil hx ha hdb he hpl) fun σ H Q ⟨ρ, S, σd, s, r, h⟩ => ⟨ρ, S, σd, s, r, (PostG.bind (rel := Reps) h).mono fun xs H1 ⟨ρ1, S1, ds, e1, s1, q1, h1⟩ =>
    ⟨ρ1, S1, ds, s1, by rw [List.append_nil]; exact q1, h1⟩⟩
theorem fe_call0 (F : FnOk X.prog X.w X.K X.mg X.base CX k fa fd ps (spF f)) (hr : Room k X.A) (hg : Gl X x) (hm : X.mg x = some (.ref fa)) (hk : PySem.W.keepIn X.K (.ref fa) = true) (hb : Binds X.K fd ps []) (hx : Passes CX X E)
    (hdb : (x == ("__debug__" : Str)) = false := by decide) : FE X E (.Call (.Name x p) [] [] pos) (mL f aNil) :=
  pe_imp (pe_call0 F hr hg hm hk hb .nil hx hdb) fun σ H Q ⟨ρ, S, σd, s, r, h⟩ => ⟨ρ, S, [], s, .nil, h⟩
/-! ### subscripts, slices, methods -/
structure IxF (X : Cx) (E : XK) (f : Fn2) : Prop where
  ex : ∃ r, IxR X r ∧ R2Ok E r f
theorem fe_ix {f : Fn2} (ho : IxF X E f) (ha : FE X E a ma) (hb : FE X E b mb) (hs : PlainIx b) : FE X E (.Subscript a b pos) (mOp f ma mb) := by
  obtain ⟨r, h1, h2⟩ := ho.ex
  exact pe_imp (pe_ix h1 ha hb hs) fun σ H Q h => tOp_of h2 h
structure MtF (X : Cx) (E : XK) (id : String) (f : D → List D → Sto → R D) : Prop where
  ex : ∃ r, MtR X id r ∧ ∀ ρ S H x xs dx ds Q, Sim ρ S H → Rep H ρ x dx → Reps H ρ xs ds → PostG Rep E ρ H Q (f dx ds S) → r x xs H Q
/-- the receiver's type, by the store -/
@[simp] def tyD (T : String) (S : Sto) : D → Bool
  | .str _ => T == "str"
  | .int _ => T == "int"
  | .loc n => match S[n]? with
    | some (.lst _) => T == "list"
    | some (.dK _) => T == "dict"
    | some (.dT _) => T == "dict"
    | _ => false
  | _ => false
theorem tyD_of {K : PySem.W.Frag} {T : String} {S ρ H x d} (s : Sim ρ S H) (r : Rep H ρ x d) (h : tyD T S d = true) : tyV K T x H := by
  cases d with
  | str z => cases r; exact beq_iff_eq.mp h
  | int z => cases r; exact beq_iff_eq.mp h
  | loc n =>
    cases r with
    | loc e =>
      simp only [tyD] at h
      cases q : S[n]? with
      | none => rw [q] at h; cases h
      | some o =>
        rw [q] at h
        obtain ⟨a, e1, ro⟩ := s.at_ n o q
        rw [e] at e1; cases e1
        cases o with
        | lst ds => obtain ⟨xs, e2, _⟩ := ro; exact .inl ⟨beq_iff_eq.mp h, xs, .of e2⟩
        | dK ds => obtain ⟨xs, e2, _⟩ := ro; exact .inr (.inr (.inl ⟨beq_iff_eq.mp h, .inl ⟨xs, e2⟩⟩))
        | dT ds => obtain ⟨xs, e2, _⟩ := ro; exact .inr (.inr (.inl ⟨beq_iff_eq.mp h, .inr ⟨xs, e2⟩⟩))
        | ins _ _ => cases h
        | fK _ => cases h
        | fT _ => cases h
  | _ => cases h
@[simp] def bmK (T : String) (f : D → List D → Sto → R D) (t : Ma) (σ : Sd) (x : D) (S1 : Sto) : R D := if tyD T S1 x = true then (t σ S1).bind (f x) else .bad
@[simp] def mBM (T : String) (f : D → List D → Sto → R D) (o : Me) (t : Ma) (σ : Sd) (S : Sto) : R D := (o σ S).bind (bmK T f t σ)
theorem fe_bm {T : String} {name : Str} {o : Expr} {apos cpos : Pos} {mo : Me} {f : D → List D → Sto → R D} (pa : PlainAttrs T) (slot : Slot T name id) (hty : typeOf (.builtin id) = pure (.type "method_descriptor")) (hm : MtF X E id f) (ho : FE X E o mo) (ha : FA X E (e :: es) t)
    (hbase : attributeBase o name X.env (eval o X.env) = eval o X.env := by rfl)
    (hfew : ((backTo cpos (starEach (e :: es) X.env)).all (fun x => !x.1) && (backToKw cpos (keywordEach [] X.env)).all (fun x => x.1.isSome)
      && decide ((e :: es).length + ([] : List Keyword).length + (if ([] : List Keyword).isEmpty then 0 else 1) < 30)) = true := by rfl)
    (hline : (apos.endLine == cpos.line) = true := by rfl) (hs : starEach (e :: es) X.env = (false, eval e X.env) :: starEach es X.env := by rfl) (hplain : (backTo cpos (starEach es X.env)).any (·.1) = false := by rfl) :
    FE X E (.Call (.Attribute o name apos) (e :: es) [] cpos) (mBM T f mo t) := by
  obtain ⟨r, h1, h2⟩ := hm.ex
  refine pe_imp (pe_bm pa slot hty h1 ho ha hbase hfew hline hs hplain) fun σ H Q ⟨ρ, S, σd, s, r, h⟩ => ⟨ρ, S, σd, s, r, (PostG.bind (rel := Rep) h).mono fun x H1 ⟨ρ1, S1, dx, e1, s1, q1, h1⟩ => ?_⟩
  unfold bmK at h1
  split at h1
  · rename_i ht
    exact ⟨tyD_of s1 q1 ht, ρ1, S1, σd, s1, r.ext s e1, (PostG.bind (rel := Reps) h1).mono fun xs H2 ⟨ρ2, S2, ds, e2, s2, q2, h3⟩ => h2 ρ2 S2 H2 x xs dx ds Q s2 (q1.ext s1 e2) q2 h3⟩
  · exact h1.elim
theorem fe_bm0 {T : String} {name : Str} {o : Expr} {apos cpos : Pos} {mo : Me} {f : D → List D → Sto → R D} (pa : PlainAttrs T) (slot : Slot T name id) (hty : typeOf (.builtin id) = pure (.type "method_descriptor")) (hm : MtF X E id f) (ho : FE X E o mo)
    (hbase : attributeBase o name X.env (eval o X.env) = eval o X.env := by rfl) (hline : (apos.endLine == cpos.line) = true := by rfl) :
    FE X E (.Call (.Attribute o name apos) [] [] cpos) (mBM T f mo aNil) := by
  obtain ⟨r, h1, h2⟩ := hm.ex
  refine pe_imp (pe_bm0 pa slot hty h1 ho hbase hline) fun σ H Q ⟨ρ, S, σd, s, r, h⟩ => ⟨ρ, S, σd, s, r, (PostG.bind (rel := Rep) h).mono fun x H1 ⟨ρ1, S1, dx, e1, s1, q1, h1⟩ => ?_⟩
  unfold bmK at h1
  split at h1
  · rename_i ht
    exact ⟨tyD_of s1 q1 ht, h2 ρ1 S1 H1 x [] dx [] Q s1 q1 .nil h1⟩
  · exact h1.elim
end
end FL
set_option Elab.async false
set_option linter.all false
set_option maxRecDepth 100000
set_option maxHeartbeats 4000000
/-! FL3: functional readings of statements, targets, loops, comprehensions, defs. -/
namespace FL
open PySem PySem.Spec PyProof.Rows L2

inductive Fl where
  | nx (σ : Sd) (S : Sto) | ret (d : D) (S : Sto) | brk (σ : Sd) (S : Sto) | cont (σ : Sd) (S : Sto) | exc (c : Value) (fs : Option (List (Str × D))) (S : Sto) | bad
abbrev Ms := Sd → Sto → Fl
def R.fl {α : Type} (r : R α) (k : α → Sto → Fl) : Fl := match r with
  | .ok a S => k a S
  | .exc c fs S => .exc c fs S
  | .bad => .bad
@[simp] theorem R.fl_ok {α : Type} (a : α) (S : Sto) (k : α → Sto → Fl) : (R.ok a S).fl k = k a S := rfl
@[simp] theorem R.fl_exc {α : Type} (c fs S) (k : α → Sto → Fl) : (R.exc c fs S).fl k = .exc c fs S := rfl
@[simp] theorem R.fl_bad {α : Type} (k : α → Sto → Fl) : (R.bad).fl k = .bad := rfl
def Fl.sq (r : Fl) (b : Sd → Sto → Fl) : Fl := match r with
  | .nx σ' S' => b σ' S'
  | r => r
@[simp] theorem Fl.sq_nx (σ S b) : (Fl.nx σ S).sq b = b σ S := rfl
@[simp] theorem Fl.sq_ret (d S b) : (Fl.ret d S).sq b = .ret d S := rfl
@[simp] theorem Fl.sq_brk (σ S b) : (Fl.brk σ S).sq b = .brk σ S := rfl
@[simp] theorem Fl.sq_cont (σ S b) : (Fl.cont σ S).sq b = .cont σ S := rfl
@[simp] theorem Fl.sq_exc (c fs S b) : (Fl.exc c fs S).sq b = .exc c fs S := rfl
@[simp] theorem Fl.sq_bad (b) : Fl.bad.sq b = .bad := rfl
def PostS (E : XK) (ρ : List Addr) (H : Hp) (D : Ends) : Fl → Prop
  | .nx σd S' => ∀ σ' ρ' H', Ext ρ H ρ' H' → Sim ρ' S' H' → SRep H' ρ' σ' σd → D.nx σ' H'
  | .ret d S' => ∀ v ρ' H', Ext ρ H ρ' H' → Sim ρ' S' H' → Rep H' ρ' v d → D.rt v H'
  | .brk σd S' => ∀ σ' ρ' H', Ext ρ H ρ' H' → Sim ρ' S' H' → SRep H' ρ' σ' σd → D.bk σ' H'
  | .cont σd S' => ∀ σ' ρ' H', Ext ρ H ρ' H' → Sim ρ' S' H' → SRep H' ρ' σ' σd → D.ct σ' H'
  | .exc c fs S' => PX E ρ H c fs S'
  | .bad => False
abbrev tFS (E : XK) (m : Ms) : TS := fun D σ H => ∃ ρ S σd, Sim ρ S H ∧ SRep H ρ σ σd ∧ PostS E ρ H D (m σd S)
abbrev FS (X : Cx) (E : XK) (st : Stmt) (m : Ms) : Prop := PS X st (tFS E m)
abbrev FSs (X : Cx) (E : XK) (st : List Stmt) (m : Ms) : Prop := PSs X st (tFS E m)
section
variable {E : XK} {ρ ρ1 : List Addr} {H H1 : Hp} {D D' : Ends}
theorem PostS.weak {r : Fl} (h : PostS E ρ H D r) (e : Ext ρ H ρ1 H1) : PostS E ρ1 H1 D r := by
  cases r with
  | nx d S' => exact fun v ρ' H' e' s q => h v ρ' H' (e.trans e') s q
  | ret d S' => exact fun v ρ' H' e' s q => h v ρ' H' (e.trans e') s q
  | brk d S' => exact fun v ρ' H' e' s q => h v ρ' H' (e.trans e') s q
  | cont d S' => exact fun v ρ' H' e' s q => h v ρ' H' (e.trans e') s q
  | exc c fs S' => exact PX.weak h e
  | bad => exact h
theorem PostG.fl {α β : Type} {rel : Hp → List Addr → β → α → Prop} {m : R α} {k : α → Sto → Fl} (h : PostS E ρ H D (m.fl k)) :
    PostG rel E ρ H (fun v H1 => ∃ ρ1 S1 x, Ext ρ H ρ1 H1 ∧ Sim ρ1 S1 H1 ∧ rel H1 ρ1 v x ∧ PostS E ρ1 H1 D (k x S1)) m := by
  cases m with
  | ok d S' => exact fun v ρ' H' e s q => ⟨ρ', S', d, e, s, q, PostS.weak h e⟩
  | exc c fs S' => exact h
  | bad => exact h
/-- .. what is wanted, unweakened -/
theorem PostG.bind' {α β γ δ : Type} {rel : Hp → List Addr → β → α → Prop} {rel2 : Hp → List Addr → δ → γ → Prop} {m : R α} {k : α → Sto → R γ} {Q : δ → Hp → Prop} (h : PostG rel2 E ρ H Q (m.bind k)) (e : Ext ρ H ρ1 H1) :
    PostG rel E ρ1 H1 (fun v H2 => ∃ ρ2 S2 x, Ext ρ1 H1 ρ2 H2 ∧ Sim ρ2 S2 H2 ∧ rel H2 ρ2 v x ∧ PostG rel2 E ρ H Q (k x S2)) m := by
  cases m with
  | ok d S' => exact fun v ρ' H' e s q => ⟨ρ', S', d, e, s, q, h⟩
  | exc c fs S' => exact PX.weak h e
  | bad => exact h
end

/-! ### blocks, small statements -/
@[simp] def mNext (σ : Sd) (S : Sto) : Fl := .nx σ S
@[simp] def mSeq (a b : Ms) (σ : Sd) (S : Sto) : Fl := (a σ S).sq b
@[simp] def mBrk (σ : Sd) (S : Sto) : Fl := .brk σ S
@[simp] def mCont (σ : Sd) (S : Sto) : Fl := .cont σ S
@[simp] def dropK (σ : Sd) (_ : D) (S' : Sto) : Fl := .nx σ S'
@[simp] def mDrop (e : Me) (σ : Sd) (S : Sto) : Fl := (e σ S).fl (dropK σ)
@[simp] def mRet (e : Me) (σ : Sd) (S : Sto) : Fl := (e σ S).fl Fl.ret
@[simp] def mRetN (_ : Sd) (S : Sto) : Fl := .ret .non S
@[simp] def ifK (a b : Ms) (σ : Sd) (x : Bool) (S1 : Sto) : Fl := brK x a b σ S1
@[simp] def mIfS (t : Mt) (a b : Ms) (σ : Sd) (S : Sto) : Fl := (t σ S).fl (ifK a b σ)
@[simp] def setK (i : Nat) (σ : Sd) (d : D) (S' : Sto) : Fl := .nx (σ.set i (some d)) S'
@[simp] def mSet (i : Nat) (e : Me) (σ : Sd) (S : Sto) : Fl := (e σ S).fl (setK i σ)
section
variable {X : Cx} {E : XK} {pos : Pos} {st : Stmt} {rest : List Stmt} {m m' : Ms} {e c : Expr} {me : Me} {mt : Mt}
theorem fss_nil : FSs X E [] mNext := pss_imp pss_nil fun D σ H ⟨ρ, S, σd, s, r, h⟩ => h σ ρ H .refl s r
theorem fss_cons (h1 : FS X E st m) (h2 : FSs X E rest m') : FSs X E (st :: rest) (mSeq m m') :=
  pss_imp (pss_cons h1 h2) fun D σ H ⟨ρ, S, σd, s, r, h⟩ => by
    refine ⟨ρ, S, σd, s, r, ?_⟩
    unfold mSeq at h
    cases q : m σd S with
    | nx σ' S' => rw [q] at h; exact fun σ1 ρ1 H1 e1 s1 r1 => ⟨ρ1, S', σ', s1, r1, PostS.weak h e1⟩
    | ret _ _ => rw [q] at h; exact h
    | brk _ _ => rw [q] at h; exact h
    | cont _ _ => rw [q] at h; exact h
    | exc _ _ _ => rw [q] at h; exact h
    | bad => rw [q] at h; exact h
theorem fss_one (h1 : FS X E st m) : FSs X E [st] m := pss_one h1
theorem fs_pass : FS X E (.Pass pos) mNext := ps_imp ps_pass fun D σ H ⟨ρ, S, σd, s, r, h⟩ => h σ ρ H .refl s r
theorem fs_brk : FS X E (.Break pos) mBrk := ps_imp ps_break fun D σ H ⟨ρ, S, σd, s, r, h⟩ => h σ ρ H .refl s r
theorem fs_cont : FS X E (.Continue pos) mCont := ps_imp ps_continue fun D σ H ⟨ρ, S, σd, s, r, h⟩ => h σ ρ H .refl s r
theorem fs_doc {x j pos'} : FS X E (.Expr (.Constant (.str x) j pos) pos') mNext := ps_imp ps_doc fun D σ H ⟨ρ, S, σd, s, r, h⟩ => h σ ρ H .refl s r
theorem fs_expr (he : FE X E e me) (hs : swapsWith e none pos.line X.env = pure false := by rfl) : FS X E (.Expr e pos) (mDrop me) :=
  ps_imp (ps_expr he hs) fun D σ H ⟨ρ, S, σd, s, r, h⟩ => ⟨ρ, S, σd, s, r, (PostG.fl (rel := Rep) h).mono fun x H1 ⟨ρ1, S1, dx, e1, s1, q1, h1⟩ => h1 σ ρ1 H1 .refl s1 (r.ext s e1)⟩
theorem fs_ret (he : FE X E e me) : FS X E (.Return (some e) pos) (mRet me) :=
  ps_imp (ps_ret he) fun D σ H ⟨ρ, S, σd, s, r, h⟩ => ⟨ρ, S, σd, s, r, (PostG.fl (rel := Rep) h).mono fun x H1 ⟨ρ1, S1, dx, e1, s1, q1, h1⟩ => h1 x ρ1 H1 .refl s1 q1⟩
theorem fs_retN : FS X E (.Return none pos) mRetN := ps_imp ps_retN fun D σ H ⟨ρ, S, σd, s, r, h⟩ => h .non ρ H .refl s .non
theorem fs_if {a b : List Stmt} (hc : FT X E c mt) (ha : FSs X E a m) (hb : FSs X E b m') : FS X E (.If c a b pos) (mIfS mt m m') :=
  ps_imp (ps_if hc ha hb) fun D σ H ⟨ρ, S, σd, s, r, h⟩ => ⟨ρ, S, σd, s, r, (PostG.fl (rel := relB) h).mono fun x H1 ⟨ρ1, S1, dx, e1, s1, q1, h1⟩ => by
    cases (show x = dx from q1)
    cases x with
    | true => rw [if_pos rfl]; exact ⟨ρ1, S1, σd, s1, r.ext s e1, h1⟩
    | false => rw [if_neg Bool.false_ne_true]; exact ⟨ρ1, S1, σd, s1, r.ext s e1, h1⟩⟩
theorem fs_set {i : Nat} {x : Str} {pos' : Pos} (hN : X.N.Nodup) (hi : X.N[i]? = some x) (hx : Loc X.env.scope x) (he : FE X E e me) (hs : swapsWith e (some (.Name x pos')) pos.line X.env = pure false := by rfl) (hf : X.fn x = true ∨ X.env.scope.names.lookup x = some .local := by first | exact .inl rfl | exact .inr rfl | assumption) :
    FS X E (.Assign [.Name x pos'] e pos) (mSet i me) :=
  ps_imp (ps_set hN hi hx he hs hf) fun D σ H ⟨ρ, S, σd, s, r, h⟩ => ⟨ρ, S, σd, s, r, (PostG.fl (rel := Rep) h).mono fun x H1 ⟨ρ1, S1, dx, e1, s1, q1, h1⟩ => h1 _ ρ1 H1 .refl s1 ((r.ext s e1).set q1 i)⟩

/-! ### targets -/
abbrev Mg := D → Sd → Sto → R Sd
abbrev Mgs := List D → Sd → Sto → R Sd
def relSd (is : List Nat) (σ : L2.St) : Hp → List Addr → L2.St → Sd → Prop := fun H ρ σ' σd => SRep H ρ σ' σd ∧ ∀ vs, (∀ i ∈ is, i ∈ vs) → wipe σ' vs = wipe σ vs
def tGg (E : XK) (g : Mg) (is : List Nat) : TG := fun v σ H Q => ∃ ρ S σd d, Sim ρ S H ∧ SRep H ρ σ σd ∧ Rep H ρ v d ∧ PostG (relSd is σ) E ρ H Q (g d σd S)
def tGgs (E : XK) (g : Mgs) (is : List Nat) : TGs := fun vs σ H Q => ∃ ρ S σd ds, Sim ρ S H ∧ SRep H ρ σ σd ∧ Reps H ρ vs ds ∧ PostG (relSd is σ) E ρ H Q (g ds σd S)
abbrev FG (X : Cx) (E : XK) (tg : Expr) (g : Mg) (is : List Nat) : Prop := PG X tg (tGg E g is)
abbrev FGs (X : Cx) (E : XK) (tg : List Expr) (g : Mgs) (is : List Nat) : Prop := PGs X tg (tGgs E g is)
theorem pg_imp {tg : Expr} {t t' : TG} (h : PG X tg t) (i : ∀ v σ H Q, t' v σ H Q → t v σ H Q) : PG X tg t' := ⟨fun pins s σ H v u Q I r hw => h.run pins s σ H v u Q I r (i _ _ _ _ hw)⟩
theorem pgs_imp {tg : List Expr} {t t' : TGs} (h : PGs X tg t) (i : ∀ v σ H Q, t' v σ H Q → t v σ H Q) : PGs X tg t' := ⟨fun pins s σ H v u Q I r hw => h.run pins s σ H v u Q I r (i _ _ _ _ hw)⟩
theorem wipe_set {α : Type} (x : Option V) (i : Nat) : ∀ (vs : List Nat) (σ : L2.St), i ∈ vs → wipe (σ.set i x) vs = wipe σ vs
  | [], _, h => by simp at h
  | v :: vs, σ, h => by
    by_cases hv : i ∈ vs
    · show (wipe (σ.set i x) vs).set v none = _
      rw [wipe_set (α := α) x i vs σ hv]
      rfl
    · have e : i = v := by
        rcases List.mem_cons.mp h with h | h
        · exact h
        · exact absurd h hv
      subst e
      have key : ∀ (ws : List Nat) (τ : L2.St), (wipe (τ.set i x) ws).set i none = (wipe τ ws).set i none := by
        intro ws
        induction ws with
        | nil => intro τ; show (τ.set i x).set i none = τ.set i none; rw [List.set_set]
        | cons w ws ih =>
          intro τ
          show ((wipe (τ.set i x) ws).set w none).set i none = ((wipe τ ws).set w none).set i none
          by_cases hw : w = i
          · subst hw; rw [List.set_set, List.set_set, ih]
          · rw [List.set_comm _ _ hw, ih, List.set_comm _ _ (Ne.symm hw)]
      exact key vs σ
@[simp] def gN (i : Nat) (d : D) (σ : Sd) (S : Sto) : R Sd := .ok (σ.set i (some d)) S
theorem fg_name {i : Nat} {x : Str} (hN : X.N.Nodup) (hi : X.N[i]? = some x) (hx : Loc X.env.scope x) (hf : X.fn x = true ∨ X.env.scope.names.lookup x = some .local := by first | exact .inl rfl | exact .inr rfl | assumption) : FG X E (.Name x pos) (gN i) [i] :=
  pg_imp (pg_name hN hi hx hf) fun v σ H Q ⟨ρ, S, σd, d, s, r, q, h⟩ => h.here s ⟨r.set q i, fun vs hv => wipe_set (α := Unit) _ i vs σ (hv i (by simp))⟩
@[simp] def gsNil (ds : List D) (σ : Sd) (S : Sto) : R Sd := match ds with
  | [] => .ok σ S
  | _ => .bad
@[simp] def gsCons (g : Mg) (t : Mgs) (ds : List D) (σ : Sd) (S : Sto) : R Sd := match ds with
  | [] => .bad
  | d :: r => (g d σ S).bind (t r)
@[simp] def gTp (n : Nat) (t : Mgs) (d : D) (σ : Sd) (S : Sto) : R Sd := match d with
  | .tup ds => if ds.length = n then t ds σ S else .bad
  | _ => .bad
theorem fgs_nil : FGs X E [] gsNil [] := pgs_imp pgs_nil fun v σ H Q ⟨ρ, S, σd, ds, s, r, q, h⟩ => by
  cases q with
  | nil => exact ⟨rfl, h.here s ⟨r, fun _ _ => rfl⟩⟩
  | cons _ _ => exact h.elim
theorem fgs_cons {tg : Expr} {tgs : List Expr} {g : Mg} {t : Mgs} {is js : List Nat} (h1 : FG X E tg g is) (h2 : FGs X E tgs t js) (hs : (assignEach (tg :: tgs) X.env).map (·.2) = assign tg X.env :: (assignEach tgs X.env).map (·.2) := by rfl) :
    FGs X E (tg :: tgs) (gsCons g t) (is ++ js) :=
  pgs_imp (pgs_cons h1 h2 hs) fun v σ H Q ⟨ρ, S, σd, ds, s, r, q, h⟩ => by
    cases q with
    | nil => exact h.elim
    | cons q1 q2 =>
      refine ⟨_, _, rfl, ρ, S, σd, _, s, r, q1, (PostG.bind (rel := relSd is σ) h).mono fun σ1 H1 ⟨ρ1, S1, σd1, e1, s1, ⟨r1, w1⟩, h1⟩ => ?_⟩
      refine ⟨ρ1, S1, σd1, _, s1, r1, q2.ext s e1, ?_⟩
      have h1' := h1
      revert h1'
      generalize t _ σd1 S1 = rr
      intro h1'
      cases rr with
      | ok σd2 S2 => exact fun σ2 ρ2 H2 e2 s2 ⟨r2, w2⟩ => h1' σ2 ρ2 H2 e2 s2 ⟨r2, fun vs hv => by rw [w2 vs fun i hi => hv i (List.mem_append_right _ hi), w1 vs fun i hi => hv i (List.mem_append_left _ hi)]⟩
      | exc _ _ _ => exact h1'
      | bad => exact h1'
theorem fg_tup {es : List Expr} {k : Nat} {t : Mgs} {n : Nat} {is : List Nat} (hc : X.calm = true) (h : FGs X E es t is) (hn : (assignEach es X.env).length = n := by rfl) (hst : (assignEach es X.env).findIdx? (·.1) = none := by rfl) : FG X E (.Tuple es k pos) (gTp n t) is :=
  pg_imp (pg_tup hc h hn hst) fun v σ H Q ⟨ρ, S, σd, d, s, r, q, h⟩ => by
    cases d with
    | tup ds =>
      cases q with
      | tup e1 q1 =>
        unfold gTp at h
        simp only at h
        split at h
        · rename_i hl
          exact ⟨_, _, rfl, .of e1, by rw [q1.length]; exact hl, ρ, S, σd, ds, s, r, q1, h⟩
        · exact h.elim
    | _ => exact h.elim
/-- o[i] = v, by values -/
structure SetF (X : Cx) (f : D → D → D → Sto → Option Sto) : Prop where
  ex : ∃ t, PSet X t ∧ ∀ ρ S H o i v do_ di dv S' Q, Sim ρ S H → Rep H ρ o do_ → Rep H ρ i di → Rep H ρ v dv → f do_ di dv S = some S' → (∀ H', Ext ρ H ρ H' → Sim ρ S' H' → Q H') → t o i v H Q
@[simp] def ofO {α : Type} (r : Option Sto) (k : Sto → R α) : R α := match r with
  | some S => k S
  | none => .bad
@[simp] def gSbK2 (f : D → D → D → Sto → Option Sto) (v : D) (σ : Sd) (x y : D) (S2 : Sto) : R Sd := ofO (f x y v S2) (R.ok σ)
@[simp] def gSbK (f : D → D → D → Sto → Option Sto) (i : Me) (v : D) (σ : Sd) (x : D) (S1 : Sto) : R Sd := (i σ S1).bind (gSbK2 f v σ x)
@[simp] def gSb (f : D → D → D → Sto → Option Sto) (o i : Me) (v : D) (σ : Sd) (S : Sto) : R Sd := (o σ S).bind (gSbK f i v σ)
theorem fg_sub {o i : Expr} {mo mi : Me} {f : D → D → D → Sto → Option Sto} (ho : FE X E o mo) (hi : FE X E i mi) (hs : SetF X f)
    (ha : ∀ v, assign (.Subscript o i pos) X.env v = (do
      let ov ← holding [v] (eval o X.env)
      let iv ← holding [v, ov] (eval i X.env)
      standAt pos
      holding [v, ov, iv] (setItem ov iv v)
      release [v, ov, iv] []) := by intro _; rfl) : FG X E (.Subscript o i pos) (gSb f mo mi) [] := by
  obtain ⟨t, h1, h2⟩ := hs.ex
  refine pg_imp (pg_sub ho hi h1 ha) fun v σ H Q ⟨ρ, S, σd, d, s, r, q, h⟩ => ?_
  refine ⟨ρ, S, σd, s, r, (PostG.bind (rel := Rep) h).mono fun x H1 ⟨ρ1, S1, dx, e1, s1, q1, h1⟩ => ?_⟩
  refine ⟨ρ1, S1, σd, s1, r.ext s e1, (PostG.bind (rel := Rep) h1).mono fun y H2 ⟨ρ2, S2, dy, e2, s2, q2, h3⟩ => ?_⟩
  simp only [gSbK2, ofO] at h3
  cases hf : f dx dy d S2 with
  | none => rw [hf] at h3; exact h3.elim
  | some S3 =>
    rw [hf] at h3
    refine h2 ρ2 S2 H2 x y v dx dy d S3 _ s2 (q1.ext s1 e2) q2 ((q.ext s e1).ext s1 e2) hf fun H3 e3 s3 => ?_
    exact h3 σ ρ2 H3 e3 s3 ⟨((r.ext s e1).ext s1 e2).ext s2 e3, fun _ _ => rfl⟩
@[simp] def asgK (g : Mg) (σ : Sd) (d : D) (S1 : Sto) : Fl := (g d σ S1).fl Fl.nx
@[simp] def mAsg (e : Me) (g : Mg) (σ : Sd) (S : Sto) : Fl := (e σ S).fl (asgK g σ)
theorem fs_asg {tg : Expr} {g : Mg} {is : List Nat} (he : FE X E e me) (hg : FG X E tg g is) (hs : swapsWithSole [tg] e pos.line X.env = pure false := by rfl) (hw : swappedStores [tg] e X.env = pure none := by rfl)
    (h1 : (assignEach [tg] X.env).map (·.2) = [assign tg X.env] := by rfl) : FS X E (.Assign [tg] e pos) (mAsg me g) :=
  ps_imp (ps_asg he hg hs hw h1) fun D σ H ⟨ρ, S, σd, s, r, h⟩ => ⟨ρ, S, σd, s, r, (PostG.fl (rel := Rep) h).mono fun x H1 ⟨ρ1, S1, dx, e1, s1, q1, h1⟩ =>
    ⟨ρ1, S1, σd, dx, s1, r.ext s e1, q1, (PostG.fl (rel := relSd is σ) h1).mono fun σ2 H2 ⟨ρ2, S2, σd2, e2, s2, ⟨r2, _⟩, h2⟩ => h2 σ2 ρ2 H2 .refl s2 r2⟩⟩
/-- name op= e -/
structure IpF (X : Cx) (E : XK) (op : Operator) (f : Fn2) : Prop where
  ex : ∃ r, PIp X op r ∧ R2Ok E r f
@[simp] def augK2 (i : Nat) (f : Fn2) (σ : Sd) (x y : D) (S2 : Sto) : Fl := (f x y S2).fl (setK i σ)
@[simp] def augK (i : Nat) (f : Fn2) (e : Me) (σ : Sd) (x : D) (S1 : Sto) : Fl := (e σ S1).fl (augK2 i f σ x)
@[simp] def mAug (i : Nat) (f : Fn2) (e : Me) (σ : Sd) (S : Sto) : Fl := (mVar i σ S).fl (augK i f e σ)
theorem fs_aug {i : Nat} {x : Str} {op : Operator} {f : Fn2} {pos' : Pos} (hN : X.N.Nodup) (hi : X.N[i]? = some x) (hx : Loc X.env.scope x) (he : FE X E e me) (ho : IpF X E op f) (hf : X.fn x = true ∨ X.env.scope.names.lookup x = some .local := by first | exact .inl rfl | exact .inr rfl | assumption) :
    FS X E (.AugAssign (.Name x pos') op e pos) (mAug i f me) := by
  obtain ⟨r0, h1, h2⟩ := ho.ex
  refine ps_imp (ps_aug hN hi hx he h1 hf) fun D σ H ⟨ρ, S, σd, s, r, h⟩ => ?_
  unfold mAug mVar at h
  split at h
  · rename_i d ed
    rw [R.fl_ok] at h
    obtain ⟨v, e1, q⟩ := r.at_ i d ed
    refine ⟨v, e1, ρ, S, σd, s, r, (PostG.fl (rel := Rep) h).mono fun y H1 ⟨ρ1, S1, dy, e1, s1, q1, h1⟩ => ?_⟩
    refine h2 ρ1 S1 H1 v y d dy _ s1 (q.ext s e1) q1 ((PostG.fl (rel := Rep) h1).mono fun z H2 ⟨ρ2, S2, dz, e2, s2, q2, h3⟩ => ?_)
    exact h3 _ ρ2 H2 .refl s2 (((r.ext s e1).ext s1 e2).set q2 i)
  · exact h.elim
/-- o[i] op= e -/
structure GetF (X : Cx) (E : XK) (f : Fn2) : Prop where
  ex : ∃ r, PGet X r ∧ R2Ok E r f
@[simp] def nxO (σ : Sd) : Option Sto → Fl
  | some S => .nx σ S
  | none => .bad
@[simp] def aggK5 (fs : D → D → D → Sto → Option Sto) (σ : Sd) (x y z : D) (S5 : Sto) : Fl := nxO σ (fs x y z S5)
@[simp] def aggK4 (fo : Fn2) (fs : D → D → D → Sto → Option Sto) (σ : Sd) (x y a b : D) (S4 : Sto) : Fl := (fo a b S4).fl (aggK5 fs σ x y)
@[simp] def aggK3 (fo : Fn2) (fs : D → D → D → Sto → Option Sto) (e : Me) (σ : Sd) (x y a : D) (S3 : Sto) : Fl := (e σ S3).fl (aggK4 fo fs σ x y a)
@[simp] def aggK2 (fg fo : Fn2) (fs : D → D → D → Sto → Option Sto) (e : Me) (σ : Sd) (x y : D) (S2 : Sto) : Fl := (fg x y S2).fl (aggK3 fo fs e σ x y)
@[simp] def aggK (fg fo : Fn2) (fs : D → D → D → Sto → Option Sto) (i e : Me) (σ : Sd) (x : D) (S1 : Sto) : Fl := (i σ S1).fl (aggK2 fg fo fs e σ x)
@[simp] def mAugS (fg fo : Fn2) (fs : D → D → D → Sto → Option Sto) (o i e : Me) (σ : Sd) (S : Sto) : Fl := (o σ S).fl (aggK fg fo fs i e σ)
theorem fs_augS {o i : Expr} {mo mi : Me} {fg fo : Fn2} {fs : D → D → D → Sto → Option Sto} {op : Operator} {tpos : Pos} (ho : FE X E o mo) (hi : FE X E i mi) (hg : GetF X E fg) (he : FE X E e me) (hp : IpF X E op fo) (hs : SetF X fs)
    (ha : ∀ ov iv new, augStore i ov iv new = (do holding [new, ov, iv] (setItem ov iv new); release [new, ov, iv] []; pure .next) := by intros; rfl) : FS X E (.AugAssign (.Subscript o i tpos) op e pos) (mAugS fg fo fs mo mi me) := by
  obtain ⟨rg, hg1, hg2⟩ := hg.ex
  obtain ⟨rp, hp1, hp2⟩ := hp.ex
  obtain ⟨rs, hs1, hs2⟩ := hs.ex
  refine ps_imp (ps_augS ho hi hg1 he hp1 hs1 ha) fun D σ H ⟨ρ, S, σd, s, r, h⟩ => ?_
  refine ⟨ρ, S, σd, s, r, (PostG.fl (rel := Rep) h).mono fun x H1 ⟨ρ1, S1, dx, e1, s1, q1, h1⟩ => ?_⟩
  refine ⟨ρ1, S1, σd, s1, r.ext s e1, (PostG.fl (rel := Rep) h1).mono fun y H2 ⟨ρ2, S2, dy, e2, s2, q2, h2⟩ => ?_⟩
  refine hg2 ρ2 S2 H2 x y dx dy _ s2 (q1.ext s1 e2) q2 ((PostG.fl (rel := Rep) h2).mono fun a H3 ⟨ρ3, S3, da, e3, s3, q3, h3⟩ => ?_)
  have r3 := ((r.ext s e1).ext s1 e2).ext s2 e3
  refine ⟨ρ3, S3, σd, s3, r3, (PostG.fl (rel := Rep) h3).mono fun b H4 ⟨ρ4, S4, db, e4, s4, q4, h4⟩ => ?_⟩
  refine hp2 ρ4 S4 H4 a b da db _ s4 (q3.ext s3 e4) q4 ((PostG.fl (rel := Rep) h4).mono fun z H5 ⟨ρ5, S5, dz, e5, s5, q5, h5⟩ => ?_)
  simp only [aggK5, nxO] at h5
  cases hf : fs dx dy dz S5 with
  | none => rw [hf] at h5; exact h5.elim
  | some S6 =>
    rw [hf] at h5
    refine hs2 ρ5 S5 H5 x y z dx dy dz S6 _ s5 ((((q1.ext s1 e2).ext s2 e3).ext s3 e4).ext s4 e5) (((q2.ext s2 e3).ext s3 e4).ext s4 e5) q5 hf fun H6 e6 s6 => ?_
    exact h5 σ ρ5 H6 e6 s6 (((r3.ext s3 e4).ext s4 e5).ext s5 e6)
end
end FL
set_option Elab.async false
set_option linter.all false
set_option maxRecDepth 100000
set_option maxHeartbeats 4000000
/-! FL4: loops, comprehensions, defs. -/
namespace FL
open PySem PySem.Spec PyProof.Rows L2

/-! ### what a loop walks: items; the list of the store that they are read from -/
inductive Src where
  | its (ds : List D) | at_ (n : Nat) (o : O) (ds : List D)
@[simp] def Src.items : Src → List D
  | .its ds => ds
  | .at_ _ _ ds => ds
def okSrc (S : Sto) : Src → Prop
  | .its _ => True
  | .at_ n o _ => S[n]? = some o
def relSrc : Hp → List Addr → It → Src → Prop := fun H ρ J src => ∀ (i : Nat) ρ' S' H', Ext ρ H ρ' H' → Sim ρ' S' H' → okSrc S' src →
  (∀ d, src.items[i]? = some d → J.go i H' ∧ ∀ x H'', J.yld i H' x H'' → ∃ ρ'', Ext ρ' H' ρ'' H'' ∧ Sim ρ'' S' H'' ∧ Rep H'' ρ'' x d) ∧ (src.items[i]? = none → J.stop i H')
abbrev Mi := Sd → Sto → R Src
abbrev tFI (E : XK) (m : Mi) : TI := fun σ H Q => ∃ ρ S σd, Sim ρ S H ∧ SRep H ρ σ σd ∧ PostG relSrc E ρ H Q (m σd S)
abbrev FI (X : Cx) (E : XK) (tg iter : Expr) (m : Mi) : Prop := PI X tg iter (tFI E m)
theorem pi_imp {X : Cx} {tg iter : Expr} {t t' : TI} (h : PI X tg iter t) (i : ∀ σ H Q, t' σ H Q → t σ H Q) : PI X tg iter t' := ⟨fun pins s σ H Q I hw => h.run pins s σ H Q I (i _ _ _ hw)⟩
open Classical in
noncomputable def chk {α : Type} (S : Sto) (src : Src) (r b : α) : α := match src with
  | .its _ => r
  | .at_ n o _ => if S[n]? = some o then r else b
@[simp] theorem chk_its {α : Type} (S : Sto) (ds : List D) (r b : α) : chk S (.its ds) r b = r := rfl
theorem chk_lst {α : Type} {S : Sto} {n : Nat} {o : O} {ds : List D} {r b : α} (h : S[n]? = some o) : chk S (.at_ n o ds) r b = r := by
  unfold chk
  simp only
  rw [if_pos h]
theorem chk_cases {α : Type} {P : α → Prop} {S : Sto} {src : Src} {r b : α} (h : P (chk S src r b)) (hb : ¬ P b) : okSrc S src ∧ P r := by
  cases src with
  | its ds => exact ⟨trivial, h⟩
  | at_ n o ds =>
    unfold chk at h
    simp only at h
    split at h
    · exact ⟨by assumption, h⟩
    · exact absurd h hb

section
variable {X : Cx} {E : XK} {pos : Pos} {tg : Expr}
/-- the ints of a range -/
def rgD (lo : Int) (n : Nat) : List D := (List.range n).map fun (i : Nat) => .int (lo + (i : Int))
theorem rgD_get (lo : Int) (n i : Nat) : (rgD lo n)[i]? = if i < n then some (.int (lo + i)) else none := by
  unfold rgD
  rw [List.getElem?_map]
  by_cases h : i < n
  · rw [if_pos h, List.getElem?_range h]; rfl
  · rw [if_neg h, List.getElem?_eq_none (by simpa using h)]; rfl
theorem relSrc_rg {H ρ lo n} : relSrc H ρ (Itr lo n) (.its (rgD lo n)) := fun i ρ' S' H' e s _ => by
  show (∀ d, (rgD lo n)[i]? = some d → _) ∧ ((rgD lo n)[i]? = none → _)
  rw [rgD_get]
  by_cases h : i < n
  · rw [if_pos h]
    refine ⟨fun d hd => ⟨h, fun x H'' y => ?_⟩, fun z => nomatch z⟩
    cases hd
    obtain ⟨rfl, rfl⟩ := y
    exact ⟨ρ', .refl, s, .int _⟩
  · rw [if_neg h]
    exact ⟨fun d hd => (nomatch hd), fun _ => Nat.le_of_not_lt h⟩
@[simp] def rgOk (i : Int) : Bool := decide (-(2 ^ 62) ≤ i) && decide (i < 2 ^ 62)
@[simp] def fRg1 (ds : List D) (S : Sto) : R Src := match ds with
  | [.int j] => if rgOk j then .ok (.its (rgD 0 j.toNat)) S else .bad
  | _ => .bad
@[simp] def fRg2 (ds : List D) (S : Sto) : R Src := match ds with
  | [.int i, .int j] => if rgOk i && rgOk j then .ok (.its (rgD i (j - i).toNat)) S else .bad
  | _ => .bad
@[simp] def iRg (f : List D → Sto → R Src) (a : Ma) (σ : Sd) (S : Sto) : R Src := (a σ S).bind f
theorem rgOk_iff {i : Int} : rgOk i = true ↔ -(2 ^ 62) ≤ i ∧ i < 2 ^ 62 := by simp [rgOk]
theorem fi_range1 {a : Expr} {ma : Ma} {p pos : Pos} (hg : Gl X "range") (hm : X.mg "range" = none) (ha : FA X E [a] ma) (hs : starEach [a] X.env = [(false, eval a X.env)] := by rfl) : FI X E tg (.Call (.Name "range" p) [a] [] pos) (iRg fRg1 ma) :=
  pi_imp (pi_range1 hg hm ha hs) fun σ H Q ⟨ρ, S, σd, s, r, h⟩ => ⟨ρ, S, σd, s, r, (PostG.bind (rel := Reps) h).mono fun vs H1 ⟨ρ1, S1, ds, e1, s1, q1, h1⟩ => by
    unfold fRg1 at h1
    split at h1
    · cases q1 with
      | cons q1 q2 =>
        cases q2
        cases q1
        split at h1
        · rename_i hk
          have hk := rgOk_iff.mp hk
          exact ⟨_, rfl, hk.1, hk.2, h1.here s1 relSrc_rg⟩
        · exact h1.elim
    · exact h1.elim⟩
theorem fi_range2 {a b : Expr} {ma : Ma} {p pos : Pos} (hg : Gl X "range") (hm : X.mg "range" = none) (ha : FA X E [a, b] ma) (hs : starEach [a, b] X.env = [(false, eval a X.env), (false, eval b X.env)] := by rfl) (hs2 : starEach [b] X.env = [(false, eval b X.env)] := by rfl) :
    FI X E tg (.Call (.Name "range" p) [a, b] [] pos) (iRg fRg2 ma) :=
  pi_imp (pi_range2 hg hm ha hs hs2) fun σ H Q ⟨ρ, S, σd, s, r, h⟩ => ⟨ρ, S, σd, s, r, (PostG.bind (rel := Reps) h).mono fun vs H1 ⟨ρ1, S1, ds, e1, s1, q1, h1⟩ => by
    unfold fRg2 at h1
    split at h1
    · cases q1 with
      | cons q1 q2 =>
        cases q2 with
        | cons q2 q3 =>
          cases q3
          cases q1
          cases q2
          split at h1
          · rename_i hk
            simp only [Bool.and_eq_true] at hk
            have hi := rgOk_iff.mp hk.1
            have hj := rgOk_iff.mp hk.2
            exact ⟨_, _, rfl, ⟨hi.1, hi.2, hj.1, hj.2⟩, h1.here s1 relSrc_rg⟩
          · exact h1.elim
    · exact h1.elim⟩
def keyD : Key → D
  | .inl i => .int i
  | .inr x => .str x
/-- the items of a list, a tuple, a text, a walked dict -/
def strD (x : Str) : List D := x.cps.toList.map fun c => .str ⟨#[c]⟩
def fIt (d : D) (S : Sto) : R Src := match d with
  | .tup ds => .ok (.its ds) S
  | .str x => .ok (.its (strD x)) S
  | .loc n => match S[n]? with
    | some (.lst ds) => .ok (.at_ n (.lst ds) ds) S
    | some (.fK kvs) => .ok (.at_ n (.fK kvs) (kvs.map fun p => keyD p.1)) S
    | some (.fT kvs) => .ok (.at_ n (.fT kvs) (kvs.map fun p => .tup (p.1.map keyD))) S
    | _ => .bad
  | _ => .bad
@[simp] def mIt (e : Me) (σ : Sd) (S : Sto) : R Src := (e σ S).bind fIt
theorem Reps.get {H ρ} : ∀ {vs : List V} {ds : List D} {i : Nat} {d : D}, Reps H ρ vs ds → ds[i]? = some d → ∃ v, vs[i]? = some v ∧ Rep H ρ v d
  | _, _, 0, _, .cons r _, e => by
    have e : _ = _ := Option.some.inj (by simpa using e)
    exact ⟨_, rfl, e ▸ r⟩
  | _, _, i + 1, _, .cons _ t, e => by
    obtain ⟨v, e1, r⟩ := Reps.get (i := i) t (by simpa using e)
    exact ⟨v, by simpa using e1, r⟩
theorem relSrc_tup {K : PySem.W.Frag} {ρ S H a xs ds} (s : Sim ρ S H) (ha : H a = some (.tup xs)) (q : Reps H ρ xs ds) : relSrc H ρ (Itt K a) (.its ds) := fun i ρ' S' H' e s' _ => by
  have h' : SqT K H' a xs := .of (s.tup e a xs ha)
  refine ⟨fun d hd => ?_, fun hn => ⟨xs, h', ?_⟩⟩
  · obtain ⟨v, e1, r⟩ := (q.ext s e).get (show ds[i]? = some d from hd)
    refine ⟨⟨xs, v, h', e1⟩, fun x H'' y => ?_⟩
    obtain ⟨rfl, fv⟩ := y
    have := fv xs h'
    rw [e1] at this; cases this
    exact ⟨ρ', .refl, s', r⟩
  · rw [q.length]
    have hn : ds[i]? = none := hn
    exact List.getElem?_eq_none_iff.mp hn
theorem relSrc_lst {K : PySem.W.Frag} {ρ S H a n ds} (s : Sim ρ S H) (ha : ρ[n]? = some a) : relSrc H ρ (Itl K a) (.at_ n (.lst ds) ds) := fun i ρ' S' H' e s' hS => by
  obtain ⟨b, eb, xs, hx, q⟩ := s'.at_ n _ (show S'[n]? = some (.lst ds) from hS)
  have := prefix_get e.pre ha
  rw [eb] at this; cases this
  have h' : SqL K H' _ xs := .of hx
  refine ⟨fun d hd => ?_, fun hn => ⟨xs, h', ?_⟩⟩
  · obtain ⟨v, e1, r⟩ := q.get (show ds[i]? = some d from hd)
    refine ⟨⟨xs, v, h', e1⟩, fun x H'' y => ?_⟩
    obtain ⟨rfl, fv⟩ := y
    have := fv xs h'
    rw [e1] at this; cases this
    exact ⟨ρ', .refl, s', r⟩
  · rw [q.length]
    have hn : ds[i]? = none := hn
    exact List.getElem?_eq_none_iff.mp hn
theorem relSrc_str {ρ H x} : relSrc H ρ (Its x) (.its (strD x)) := fun i ρ' S' H' e s' _ => by
  show (∀ d, (strD x)[i]? = some d → _) ∧ ((strD x)[i]? = none → _)
  unfold strD
  rw [List.getElem?_map, Array.getElem?_toList]
  refine ⟨fun d hd => ?_, fun hn => ?_⟩
  · cases hc : x.cps[i]? with
    | none => rw [hc] at hd; cases hd
    | some c =>
      rw [hc] at hd
      cases hd
      refine ⟨?_, fun y H'' hy => ?_⟩
      · show i < x.cps.size
        rcases Nat.lt_or_ge i x.cps.size with h | h
        · exact h
        · rw [Array.getElem?_eq_none h] at hc; cases hc
      · obtain ⟨rfl, c', h1, rfl⟩ := hy
        rw [hc] at h1; cases h1
        exact ⟨ρ', .refl, s', .str _⟩
  · cases hc : x.cps[i]? with
    | none => exact Array.getElem?_eq_none_iff.mp hc
    | some c => rw [hc] at hn; cases hn
theorem keyD_rep {H ρ} (k : Key) : Rep H ρ (kV k) (keyD k) := by
  cases k with
  | inl i => exact .int _
  | inr x => exact .str _
theorem keysD_rep {H ρ} : ∀ (k : List Key), Reps H ρ (k.map kV) (k.map keyD)
  | [] => .nil
  | k :: r => .cons (keyD_rep k) (keysD_rep r)
theorem RepF.len {κ : Type} {H ρ} : ∀ {gs : List (κ × V)} {fs : List (κ × D)}, RepF H ρ gs fs → gs.length = fs.length
  | _, _, .nil => rfl
  | _, _, .cons _ t => congrArg (· + 1) (RepF.len t)
theorem RepF.get {κ : Type} {H ρ} : ∀ {gs : List (κ × V)} {fs : List (κ × D)} {i : Nat} {p : κ × D}, RepF H ρ gs fs → fs[i]? = some p → ∃ v, gs[i]? = some (p.1, v) ∧ Rep H ρ v p.2
  | _, _, 0, p, .cons (a := x) (b := y) hr _, h => by
    have h : y = p := Option.some.inj (by simpa using h)
    subst h
    exact ⟨x.2, by rw [← hr.1]; rfl, hr.2⟩
  | _, _, i + 1, p, .cons _ t, h => by
    obtain ⟨v, e1, r⟩ := RepF.get (i := i) t (by simpa using h)
    exact ⟨v, by simpa using e1, r⟩
theorem lt_of_some {α : Type} {l : List α} {i : Nat} {a : α} (h : l[i]? = some a) : i < l.length := by
  rcases Nat.lt_or_ge i l.length with h' | h'
  · exact h'
  · rw [List.getElem?_eq_none h'] at h; cases h
theorem relSrc_fK {ρ S H a n kvs} (s : Sim ρ S H) (ha : ρ[n]? = some a) {od ks} (hk : H a = some (.frz od (.dK ks))) (q : RepF H ρ ks kvs) : relSrc H ρ (Itk a od ks) (.at_ n (.fK kvs) (kvs.map fun p => keyD p.1)) := fun i ρ' S' H' e s' hS' => by
  have hk' := e.fz _ _ _ hk
  have hl : ks.length = kvs.length := q.len
  show (∀ d, (kvs.map fun p => keyD p.1)[i]? = some d → _) ∧ ((kvs.map fun p => keyD p.1)[i]? = none → _)
  rw [List.getElem?_map]
  cases hi : kvs[i]? with
  | none => exact ⟨fun d hd => (nomatch hd), fun _ => ⟨hk', by rw [hl]; exact List.getElem?_eq_none_iff.mp hi⟩⟩
  | some p =>
    refine ⟨fun d hd => ?_, fun z => (nomatch z)⟩
    cases hd
    obtain ⟨v, e1, r⟩ := q.get hi
    refine ⟨⟨hk', lt_of_some e1⟩, fun x H'' y => ?_⟩
    obtain ⟨rfl, k, v', e2, rfl⟩ := y
    rw [e1] at e2; cases e2
    exact ⟨ρ', .refl, s', keyD_rep _⟩
theorem relSrc_fT {ρ S H a n kvs} (s : Sim ρ S H) (ha : ρ[n]? = some a) {od ks} (hk : H a = some (.frz od (.dT ks))) (q : RepF H ρ ks kvs) : relSrc H ρ (Itkt a od ks) (.at_ n (.fT kvs) (kvs.map fun p => .tup (p.1.map keyD))) := fun i ρ' S' H' e s' hS' => by
  have hk' := e.fz _ _ _ hk
  have hl : ks.length = kvs.length := q.len
  show (∀ d, (kvs.map fun p => D.tup (p.1.map keyD))[i]? = some d → _) ∧ ((kvs.map fun p => D.tup (p.1.map keyD))[i]? = none → _)
  rw [List.getElem?_map]
  cases hi : kvs[i]? with
  | none => exact ⟨fun d hd => (nomatch hd), fun _ => ⟨hk', by rw [hl]; exact List.getElem?_eq_none_iff.mp hi⟩⟩
  | some p =>
    refine ⟨fun d hd => ?_, fun z => (nomatch z)⟩
    cases hd
    obtain ⟨v, e1, r⟩ := q.get hi
    refine ⟨⟨hk', lt_of_some e1⟩, fun x H'' y => ?_⟩
    obtain ⟨rfl, k, v', b, e2, rfl, hb⟩ := y
    rw [e1] at e2; cases e2
    exact ⟨ρ', .refl, s', .tup hb (keysD_rep _)⟩
theorem pi_or {iter : Expr} {t t' : TI} (h : PI X tg iter t) (h' : PI X tg iter t') : PI X tg iter (fun σ H R => t σ H R ∨ t' σ H R) := ⟨fun pins s σ H R I hw => hw.elim (h.run pins s σ H R I) (h'.run pins s σ H R I)⟩
theorem fi_any {e : Expr} {m : Me} (he : FE X E e m) : FI X E tg e (mIt m) := by
  refine pi_imp (pi_or (pi_tup he) (pi_or (pi_list he) (pi_or (pi_str he) (pi_keys he)))) fun σ H Q ⟨ρ, S, σd, s, r, h⟩ => ?_
  unfold mIt at h
  cases hm : m σd S with
  | ok d S1 =>
    have go : ∀ {P : VK}, (∀ v ρ' H', Ext ρ H ρ' H' → Sim ρ' S1 H' → Rep H' ρ' v d → PostG relSrc E ρ' H' Q (fIt d S1) → P v H') → tF E m σ H P := fun {P} k =>
      ⟨ρ, S, σd, s, r, by rw [hm]; exact fun v ρ' H' e s' q => k v ρ' H' e s' q (by rw [hm] at h; exact PostG.weak h e)⟩
    cases d with
    | tup ds =>
      refine .inl (go fun v ρ' H' e s' q hf => ?_)
      cases q with
      | tup ha q => exact ⟨_, rfl, ⟨_, .of ha⟩, hf.here s' (relSrc_tup s' ha q)⟩
    | str x =>
      refine .inr (.inr (.inl (go fun v ρ' H' e s' q hf => ?_)))
      cases q
      exact ⟨x, rfl, hf.here s' relSrc_str⟩
    | loc n =>
      rw [hm] at h
      cases hS : S1[n]? with
      | none =>
        simp only [R.bind, fIt, hS] at h
        exact h.elim
      | some o =>
        cases o with
        | lst ds =>
          refine .inr (.inl (go fun v ρ' H' e s' q hf => ?_))
          cases q with
          | loc ha =>
            simp only [fIt, hS] at hf
            obtain ⟨b, eb, xs, hx, q⟩ := s'.at_ n _ hS
            rw [ha] at eb; cases eb
            exact ⟨_, rfl, ⟨xs, .of hx⟩, hf.here s' (relSrc_lst s' ha)⟩
        | fK kvs =>
          refine .inr (.inr (.inr (go fun v ρ' H' e s' q hf => ?_)))
          cases q with
          | loc ha =>
            simp only [fIt, hS] at hf
            obtain ⟨b, eb, od, ks, hx, q⟩ := s'.at_ n _ hS
            rw [ha] at eb; cases eb
            exact ⟨_, _, rfl, .inl ⟨ks, hx, hf.here s' (relSrc_fK s' ha hx q)⟩⟩
        | fT kvs =>
          refine .inr (.inr (.inr (go fun v ρ' H' e s' q hf => ?_)))
          cases q with
          | loc ha =>
            simp only [fIt, hS] at hf
            obtain ⟨b, eb, od, ks, hx, q⟩ := s'.at_ n _ hS
            rw [ha] at eb; cases eb
            exact ⟨_, _, rfl, .inr ⟨ks, hx, hf.here s' (relSrc_fT s' ha hx q)⟩⟩
        | _ =>
          simp only [R.bind, fIt, hS] at h
          exact h.elim
    | _ => rw [hm] at h; exact h.elim
  | exc c fs S1 => exact .inl ⟨ρ, S, σd, s, r, by rw [hm]; rw [hm] at h; exact h⟩
  | bad => rw [hm] at h; exact h.elim

/-! ### for -/
noncomputable def forL (src : Src) (g : Mg) (b : Ms) : List D → Sd → Sto → Fl
  | [], σ, S => chk S src (.nx σ S) .bad
  | d :: ds, σ, S => chk S src ((g d σ S).fl fun σ1 S1 => match b σ1 S1 with
    | .nx σ2 S2 => forL src g b ds σ2 S2
    | .cont σ2 S2 => forL src g b ds σ2 S2
    | .brk σ2 S2 => .nx σ2 S2
    | r => r) .bad
@[simp] noncomputable def forK (g : Mg) (b : Ms) (σ : Sd) (src : Src) (S1 : Sto) : Fl := forL src g b src.items σ S1
@[simp] noncomputable def mFor (i : Mi) (g : Mg) (b : Ms) (σ : Sd) (S : Sto) : Fl := (i σ S).fl (forK g b σ)
theorem fs_for {iter : Expr} {body : List Stmt} {mi : Mi} {g : Mg} {is : List Nat} {b : Ms} (hp : PassesOwn (model X.prog X.w) X.A X.env X.xe) (hc : X.calm = true) (hi : FI X E tg iter mi) (hg : FG X E tg g is) (hb : FSs X E body b)
    (hs : ∀ x, foldedSetIterable iter X.env x = pure x := by intro _; rfl) : FS X E (.For tg iter body [] pos) (mFor mi g b) := by
  refine ps_imp (ps_for hp hc hi hg hb hs) fun D σ H ⟨ρ, S, σd, s, r, h⟩ => ?_
  refine ⟨ρ, S, σd, s, r, (PostG.fl (rel := relSrc) h).mono fun J H1 ⟨ρ1, S1, src, e1, s1, q1, h1⟩ => ?_⟩
  refine ⟨fun i m σ' H' => m = src.items.length - i ∧ i ≤ src.items.length ∧ ∃ ρ' S' σd', Ext ρ1 H1 ρ' H' ∧ Sim ρ' S' H' ∧ SRep H' ρ' σ' σd' ∧ PostS E ρ' H' D (forL src g b (src.items.drop i) σd' S'),
    ⟨_, rfl, Nat.zero_le _, ρ1, S1, σd, .refl, s1, r.ext s e1, h1⟩, ?_⟩
  rintro i m σ' H' ⟨rfl, hi, ρ', S', σd', e', s', r', h'⟩
  cases hd : src.items[i]? with
  | none =>
    have hl : src.items.length ≤ i := List.getElem?_eq_none_iff.mp hd
    rw [List.drop_of_length_le hl] at h'
    unfold forL at h'
    obtain ⟨ok, h'⟩ := chk_cases h' (fun z => z)
    exact .inl ⟨(q1 i ρ' S' H' e' s' ok).2 hd, h' σ' ρ' H' .refl s' r'⟩
  | some d =>
    have hl : i < src.items.length := by
      rcases Nat.lt_or_ge i src.items.length with h | h
      · exact h
      · rw [List.getElem?_eq_none h] at hd; cases hd
    have ed : src.items.drop i = d :: src.items.drop (i + 1) := by
      rw [List.drop_eq_getElem_cons hl]
      rw [List.getElem?_eq_getElem hl] at hd
      rw [Option.some.inj hd]
    rw [ed] at h'
    unfold forL at h'
    obtain ⟨ok, h'⟩ := chk_cases h' (fun z => z)
    obtain ⟨go, yl⟩ := (q1 i ρ' S' H' e' s' ok).1 d hd
    refine .inr ⟨go, fun σ2 H2 => ∃ ρ2 S2 σd2, Ext ρ1 H1 ρ2 H2 ∧ Sim ρ2 S2 H2 ∧ SRep H2 ρ2 σ2 σd2 ∧ PostS E ρ2 H2 D (forL src g b (src.items.drop (i + 1)) σd2 S2), fun σ2 H2 w => ⟨_, by omega, rfl, hl, w⟩, fun x H'' y => ?_⟩
    obtain ⟨ρ'', e'', s'', rx⟩ := yl x H'' y
    refine ⟨ρ'', S', σd', d, s'', r'.ext s' e'', rx, (PostG.fl (rel := relSd is σ') (PostS.weak h' e'')).mono fun σ3 H3 ⟨ρ3, S3, σd3, e3, s3, ⟨r3, _⟩, h3⟩ => ?_⟩
    refine ⟨ρ3, S3, σd3, s3, r3, ?_⟩
    have e13 := (e'.trans e'').trans e3
    revert h3
    cases hb' : b σd3 S3 with
    | nx σ4 S4 => exact fun h3 σ5 ρ5 H5 e5 s5 r5 => ⟨ρ5, S4, σ4, e13.trans e5, s5, r5, PostS.weak h3 e5⟩
    | cont σ4 S4 => exact fun h3 σ5 ρ5 H5 e5 s5 r5 => ⟨ρ5, S4, σ4, e13.trans e5, s5, r5, PostS.weak h3 e5⟩
    | brk σ4 S4 => exact fun h3 => h3
    | ret d S4 => exact fun h3 => h3
    | exc _ _ _ => exact fun h3 => h3
    | bad => exact fun h3 => h3
end
end FL
set_option Elab.async false
set_option linter.all false
set_option maxRecDepth 100000
set_option maxHeartbeats 4000000
/-! FL5: comprehensions, while, defs. -/
namespace FL
open PySem PySem.Spec PyProof.Rows L2

/-! ### list comprehensions -/
def wipeD (σ : Sd) : List Nat → Sd
  | [] => σ
  | v :: vs => (wipeD σ vs).set v none
theorem SRep.wipe {H ρ σ σd} (r : SRep H ρ σ σd) : ∀ vs : List Nat, SRep H ρ (L2.wipe σ vs) (wipeD σd vs)
  | [] => r
  | v :: vs => by
    have ih := SRep.wipe r vs
    refine ⟨by simp [wipeD, L2.wipe, ih.len], fun k x h => ?_⟩
    have h : ((wipeD σd vs).set v none)[k]? = some (some x) := h
    show ∃ w, ((L2.wipe σ vs).set v none)[k]? = some (some w) ∧ _
    by_cases hk : v = k
    · subst hk
      by_cases hl : v < (wipeD σd vs).length
      · rw [List.getElem?_set_self hl] at h; cases h
      · rw [List.getElem?_eq_none (by simpa using hl)] at h; cases h
    · rw [List.getElem?_set_ne hk] at h
      rw [List.getElem?_set_ne hk]
      exact ih.at_ k x h
theorem set_wipe (x : Option V) : ∀ (ws : List Nat) (τ : L2.St) (i : Nat), (L2.wipe (τ.set i none) ws).set i x = (L2.wipe τ ws).set i x
  | [], τ, i => by show (τ.set i none).set i x = τ.set i x; rw [List.set_set]
  | w :: ws, τ, i => by
    show ((L2.wipe (τ.set i none) ws).set w none).set i x = ((L2.wipe τ ws).set w none).set i x
    by_cases hw : w = i
    · subst hw; rw [List.set_set, List.set_set, set_wipe x ws τ w]
    · rw [List.set_comm _ _ hw, set_wipe x ws τ i, List.set_comm _ _ (Ne.symm hw)]
theorem wipe_wipe : ∀ (vs : List Nat) (σ : L2.St), L2.wipe (L2.wipe σ vs) vs = L2.wipe σ vs
  | [], _ => rfl
  | v :: vs, σ => by
    show (L2.wipe ((L2.wipe σ vs).set v none) vs).set v none = (L2.wipe σ vs).set v none
    rw [set_wipe none vs _ v, wipe_wipe vs σ]
noncomputable def compL (src : Src) (g : Mg) (t : Mt) (e : Me) (vs : List Nat) (σ : Sd) : List D → List D → Sto → R D
  | [], acc, S => chk S src (.ok (.loc S.length) (S ++ [.lst acc])) .bad
  | d :: ds, acc, S => chk S src ((g d (wipeD σ vs) S).bind fun σ1 S1 => (t σ1 S1).bind fun k S2 => match k with
    | true => (e σ1 S2).bind fun y S3 => if acc.length < sizeLine then compL src g t e vs σ ds (acc ++ [y]) S3 else .bad
    | false => compL src g t e vs σ ds acc S2) .bad
@[simp] noncomputable def compK (g : Mg) (t : Mt) (e : Me) (vs : List Nat) (σ : Sd) (src : Src) (S1 : Sto) : R D := compL src g t e vs σ src.items [] S1
@[simp] noncomputable def mComp (i : Mi) (g : Mg) (t : Mt) (e : Me) (vs : List Nat) (σ : Sd) (S : Sto) : R D := (i σ S).bind (compK g t e vs σ)
@[simp] def mYes (_ : Sd) (S : Sto) : R Bool := .ok true S
structure FTs (X : Cx) (E : XK) (ifs : List Expr) (t : Mt) : Prop where
  pts : PTs X ifs (tFT E t)
theorem pts_imp {X : Cx} {ifs : List Expr} {t t' : TT} (h : PTs X ifs t) (i : ∀ σ H Q, t' σ H Q → t σ H Q) : PTs X ifs t' := ⟨fun pins s σ H Q I hw => h.run pins s σ H Q I (i _ _ _ hw)⟩
theorem fts_nil {X : Cx} {E : XK} : FTs X E [] mYes := ⟨pts_imp pts_nil fun σ H Q ⟨ρ, S, σd, s, r, h⟩ => h.here s rfl⟩
theorem fts_one {X : Cx} {E : XK} {c : Expr} {t : Mt} (h : FT X E c t) : FTs X E [c] t := ⟨pts_one h⟩
/-- an untracked list becomes the store's last object -/
theorem Sim.adopt {ρ S H a xs ds} (s : Sim ρ S H) (hn : a ∉ ρ) (ha : H a = some (.lst xs)) (q : Reps H ρ xs ds) : Sim (ρ ++ [a]) (S ++ [.lst ds]) H := by
  have pre : ρ <+: ρ ++ [a] := List.prefix_append _ _
  refine ⟨by simp [s.len], ?_, fun n w h => ?_⟩
  · refine List.nodup_append.mpr ⟨s.nd, by simp, fun b hb c hc => ?_⟩
    rintro rfl
    exact hn (by rw [← List.mem_singleton.mp hc]; exact hb)
  · by_cases hn : n < S.length
    · rw [List.getElem?_append_left hn] at h
      obtain ⟨b, e1, r⟩ := s.at_ n w h
      exact ⟨b, prefix_get pre e1, r.mono pre (fun _ _ h => h) fun u h => h⟩
    · have hn2 : n = S.length := by
        have : n < (S ++ [O.lst ds]).length := by
          rcases Nat.lt_or_ge n (S ++ [O.lst ds]).length with h' | h'
          · exact h'
          · rw [List.getElem?_eq_none h'] at h; cases h
        simp at this; omega
      subst hn2
      have h2 : O.lst ds = w := by simpa using h
      subst h2
      exact ⟨a, by rw [← s.len]; simp, xs, ha, q.mono pre fun _ _ h => h⟩
theorem Reps.snoc {H ρ v d} : ∀ {vs ds}, Reps H ρ vs ds → Rep H ρ v d → Reps H ρ (vs ++ [v]) (ds ++ [d])
  | _, _, .nil, r => .cons r .nil
  | _, _, .cons q t, r => .cons q (Reps.snoc t r)
section
variable {X : Cx} {E : XK} {pos : Pos}
theorem tLc_of {wi : Mi} {g : Mg} {t : Mt} {e : Me} {vs is : List Nat} (hv : ∀ i ∈ is, i ∈ vs) {σ H Q} (h : tF E (mComp wi g t e vs) σ H Q) : tLc (tFI E wi) (tGg E g is) (tFT E t) (tF E e) vs σ H Q := by
  obtain ⟨ρ, S, σd, s, r, h⟩ := h
  refine ⟨ρ, S, σd, s, r, (PostG.bind (rel := relSrc) h).mono fun J H1 ⟨ρ1, S1, src, e1, s1, q1, h1⟩ => ?_⟩
  intro A hA
  have r1 := r.ext s e1
  -- behind the new list
  have ext0 : ∀ {ρ' H' xs}, Ext ρ1 H1 ρ' H' → A ∉ ρ' → Ext ρ1 H1 ρ' (upd H' A (.lst xs)) := fun {ρ' H' xs} e hn => ⟨e.pre, e.new, fun b o hb hn2 => by
    rw [upd_ne (ne_of_none hb hA)]; exact e.fr b o hb hn2, fun b o u hb => by rw [upd_ne (ne_of_none hb hA)]; exact e.fz b o u hb⟩
  have simA : ∀ {ρ' S' H' xs}, Sim ρ' S' H' → A ∉ ρ' → (∀ ys, H' A ≠ some (.tup ys)) → Sim ρ' S' (upd H' A (.lst xs)) := fun {ρ' S' H' xs} s hn ht => by
    refine ⟨s.len, s.nd, fun n o ho => ?_⟩
    obtain ⟨b, eb, ro⟩ := s.at_ n o ho
    have hb : b ≠ A := fun z => hn (by rw [← z]; exact List.mem_of_getElem? eb)
    refine ⟨b, eb, ro.mono (List.prefix_refl _) (fun c ys hc => ?_) fun u hu => by rw [upd_ne hb]; exact hu⟩
    rw [upd_ne (fun z => ht ys (by rw [← z]; exact hc))]; exact hc
  have repA : ∀ {ρ' H' xs v d}, (∀ ys, H' A ≠ some (.tup ys)) → Rep H' ρ' v d → Rep (upd H' A (.lst xs)) ρ' v d := fun {ρ' H' xs v d} ht q => q.mono (List.prefix_refl _) fun c ys hc => by
    rw [upd_ne (fun z => ht ys (by rw [← z]; exact hc))]; exact hc
  have repsA : ∀ {ρ' H' xs v d}, (∀ ys, H' A ≠ some (.tup ys)) → Reps H' ρ' v d → Reps (upd H' A (.lst xs)) ρ' v d := fun {ρ' H' xs v d} ht q => q.mono (List.prefix_refl _) fun c ys hc => by
    rw [upd_ne (fun z => ht ys (by rw [← z]; exact hc))]; exact hc
  have nA1 : A ∉ ρ1 := s1.fresh hA
  refine ⟨fun i m H' => m = src.items.length - i ∧ i ≤ src.items.length ∧ ∃ ρ' S' acc xs, Ext ρ1 H1 ρ' H' ∧ Sim ρ' S' H' ∧ A ∉ ρ' ∧ H' A = some (.lst xs) ∧ Reps H' ρ' xs acc ∧
      PostG Rep E ρ1 H1 Q (compL src g t e vs σd (src.items.drop i) acc S'), ⟨_, rfl, Nat.zero_le _, ρ1, S1, [], [], ext0 .refl nA1, simA s1 nA1 (fun ys z => by rw [hA] at z; cases z), nA1, upd_same, .nil, h1⟩, ?_⟩
  rintro i m H' ⟨rfl, hi, ρ', S', acc, xs, e', s', nA, hAx, qa, h'⟩
  cases hd : src.items[i]? with
  | none =>
    have hl : src.items.length ≤ i := List.getElem?_eq_none_iff.mp hd
    rw [List.drop_of_length_le hl] at h'
    unfold compL at h'
    obtain ⟨ok, h'⟩ := chk_cases (P := PostG Rep E ρ1 H1 Q) h' (fun z => z)
    refine .inl ⟨(q1 i ρ' S' H' e' s' ok).2 hd, h' _ (ρ' ++ [A]) H' ⟨e'.pre.trans (List.prefix_append _ _), fun b hb hn => ?_, fun b o hb hn => e'.fr b o hb hn, e'.fz⟩ (s'.adopt nA hAx qa) (.loc (by rw [← s'.len]; simp))⟩
    rcases List.mem_append.mp hb with hb | hb
    · exact e'.new b hb hn
    · rw [List.mem_singleton.mp hb]; exact hA
  | some d =>
    have hl : i < src.items.length := by
      rcases Nat.lt_or_ge i src.items.length with h | h
      · exact h
      · rw [List.getElem?_eq_none h] at hd; cases hd
    have ed : src.items.drop i = d :: src.items.drop (i + 1) := by
      rw [List.drop_eq_getElem_cons hl]
      rw [List.getElem?_eq_getElem hl] at hd
      rw [Option.some.inj hd]
    rw [ed] at h'
    unfold compL at h'
    obtain ⟨ok, h'⟩ := chk_cases (P := PostG Rep E ρ1 H1 Q) h' (fun z => z)
    obtain ⟨go, yl⟩ := (q1 i ρ' S' H' e' s' ok).1 d hd
    refine .inr ⟨go, fun H2 => ∃ ρ2 S2 acc xs, Ext ρ1 H1 ρ2 H2 ∧ Sim ρ2 S2 H2 ∧ A ∉ ρ2 ∧ H2 A = some (.lst xs) ∧ Reps H2 ρ2 xs acc ∧ PostG Rep E ρ1 H1 Q (compL src g t e vs σd (src.items.drop (i + 1)) acc S2),
      fun H2 w => ⟨_, by omega, rfl, hl, w⟩, fun x H2 y => ?_⟩
    obtain ⟨ρ2, e2, s2, rx⟩ := yl x H2 y
    have keep : ∀ {ρ3 H3}, Ext ρ' H' ρ3 H3 → A ∉ ρ3 ∧ H3 A = some (.lst xs) := fun {ρ3 H3} e3 => ⟨fun z => (by
      have := e3.new A z nA
      rw [hAx] at this
      cases this), e3.fr A _ hAx nA⟩
    have e12 := e'.trans e2
    refine ⟨ρ2, S', wipeD σd vs, d, s2, ((r1.wipe vs).ext s1 e12), rx, (PostG.bind' (rel := relSd is (wipe σ vs)) h' e12).mono fun σ3 H3 ⟨ρ3, S3, σd3, e3, s3, ⟨r3, w3⟩, h3⟩ => ⟨(w3 vs hv).trans (wipe_wipe vs σ), ?_⟩⟩
    have hb := PostG.bind' (rel := relB) h3 (e12.trans e3)
    refine ⟨ρ3, S3, σd3, s3, r3, hb.mono ?_⟩
    rintro k H4 ⟨ρ4, S4, k', e4, s4, q4, h4⟩
    cases (show k = k' from q4)
    cases k with
    | false =>
      rw [if_neg Bool.false_ne_true]
      have e24 := (e2.trans e3).trans e4
      exact ⟨ρ4, S4, acc, xs, e'.trans e24, s4, (keep e24).1, (keep e24).2, qa.ext s' e24, h4⟩
    | true =>
      rw [if_pos rfl]
      refine ⟨ρ4, S4, σd3, s4, r3.ext s3 e4, (PostG.bind' (rel := Rep) h4 ((e12.trans e3).trans e4)).mono fun y H5 ⟨ρ5, S5, dy, e5, s5, q5, h5⟩ => ?_⟩
      have e25 := ((e2.trans e3).trans e4).trans e5
      obtain ⟨nA5, hA5⟩ := keep e25
      have qa5 := qa.ext s' e25
      have ht : ∀ ys, H5 A ≠ some (.tup ys) := fun ys z => by rw [hA5] at z; cases z
      split at h5
      · rename_i hz
        exact ⟨xs, hA5, by rw [qa.length]; exact hz, ρ5, S5, acc ++ [dy], xs ++ [y], ext0 (e'.trans e25) nA5, simA s5 nA5 ht, nA5, upd_same, (repsA ht qa5).snoc (repA ht q5), h5⟩
      · exact h5.elim
theorem fe_lc {elt tg iter : Expr} {ifs : List Expr} {scope : Scope} {own : List (Str × Nat)} {mi : Mi} {g : Mg} {t : Mt} {me : Me} {is : List Nat} (hc : X.calm = true) (hN : X.N.Nodup) (hi : FI X E tg iter mi) (ok : BlkOk X.N X.env.scope scope own)
    (hg : ∀ (s : Shared) (H : Hp) (C : Addr) (cl : List (Str × Addr)) (fp : List Addr), FG (X.blk s H scope (compEnvC scope cl C X.env) fp) E tg g is) (ht : ∀ (s : Shared) (H : Hp) (C : Addr) (cl : List (Str × Addr)) (fp : List Addr), FTs (X.blk s H scope (compEnvC scope cl C X.env) fp) E ifs t)
    (he : ∀ (s : Shared) (H : Hp) (C : Addr) (cl : List (Str × Addr)) (fp : List Addr), FE (X.blk s H scope (compEnvC scope cl C X.env) fp) E elt me) (hv : ∀ i ∈ is, i ∈ own.map (·.2) := by decide) (hs : ∀ x, foldedSetIterable iter X.env x = pure x := by intro _; rfl) :
    FE X E (.ListComp elt [⟨tg, iter, ifs, 0⟩] scope pos) (mComp mi g t me (own.map (·.2))) :=
  pe_imp (pe_lc hc hN hi ok hg (fun s H C cl fp => (ht s H C cl fp).pts) he hs) fun σ H Q h => tLc_of hv h
theorem fs_setLc {i : Nat} {y : Str} {py : Pos} {elt tg iter : Expr} {ifs : List Expr} {scope : Scope} {own : List (Str × Nat)} {spos : Pos} {mi : Mi} {g : Mg} {t : Mt} {me : Me} {is : List Nat} (hc : X.calm = true) (hN : X.N.Nodup) (hy : X.N[i]? = some y) (hyl : X.env.scope.names.lookup y = some .local)
    (hsw : swapsWith (.ListComp elt [⟨tg, iter, ifs, 0⟩] scope pos) (some (.Name y py)) spos.line X.env = pure true) (hi : FI X E tg iter mi) (ok : BlkOk X.N X.env.scope scope own)
    (hg : ∀ (s : Shared) (H : Hp) (C : Addr) (cl : List (Str × Addr)) (fp : List Addr), FG (X.blk s H scope (compEnvC scope cl C X.env) fp) E tg g is) (ht : ∀ (s : Shared) (H : Hp) (C : Addr) (cl : List (Str × Addr)) (fp : List Addr), FTs (X.blk s H scope (compEnvC scope cl C X.env) fp) E ifs t)
    (he : ∀ (s : Shared) (H : Hp) (C : Addr) (cl : List (Str × Addr)) (fp : List Addr), FE (X.blk s H scope (compEnvC scope cl C X.env) fp) E elt me) (hv : ∀ i ∈ is, i ∈ own.map (·.2) := by decide) (hs : ∀ x, foldedSetIterable iter X.env x = pure x := by intro _; rfl) :
    FS X E (.Assign [.Name y py] (.ListComp elt [⟨tg, iter, ifs, 0⟩] scope pos) spos) (mSet i (mComp mi g t me (own.map (·.2)))) := by
  refine ps_imp (ps_setLc hc hN hy hyl hsw hi ok hg (fun s H C cl fp => (ht s H C cl fp).pts) he hs) fun D σ H ⟨ρ, S, σd, s, r, h⟩ => ?_
  refine tLc_of (Q := fun x H1 => gName i x σ H1 D.nx) hv ⟨ρ, S, σd, s, r, (PostG.fl (rel := Rep) h).mono fun x H1 ⟨ρ1, S1, dx, e1, s1, q1, h1⟩ => ?_⟩
  exact h1 _ ρ1 H1 .refl s1 ((r.ext s e1).set q1 i)
end

/-! ### while -/
noncomputable def whileF (t : Mt) (b : Ms) : Nat → Sd → Sto → Fl
  | 0, _, _ => .bad
  | n + 1, σ, S => (t σ S).fl fun k S1 => match k with
    | false => .nx σ S1
    | true => match b σ S1 with
      | .nx σ2 S2 => whileF t b n σ2 S2
      | .cont σ2 S2 => whileF t b n σ2 S2
      | .brk σ2 S2 => .nx σ2 S2
      | r => r
open Classical in
/-- with as many turns as it wants -/
noncomputable def mWhile (t : Mt) (b : Ms) (σ : Sd) (S : Sto) : Fl := if h : ∃ n, whileF t b n σ S ≠ .bad then whileF t b h.choose σ S else .bad
theorem whileF_more {t : Mt} {b : Ms} : ∀ {n m : Nat} {σ S}, whileF t b n σ S ≠ .bad → n ≤ m → whileF t b m σ S = whileF t b n σ S
  | 0, _, _, _, h, _ => absurd rfl h
  | n + 1, 0, _, _, _, hm => absurd hm (by omega)
  | n + 1, m + 1, σ, S, h, hm => by
    unfold whileF at h ⊢
    cases ht : t σ S with
    | exc _ _ _ => rfl
    | bad => rfl
    | ok k S1 =>
      rw [ht] at h
      simp only [R.fl_ok] at h ⊢
      cases k with
      | false => rfl
      | true =>
        simp only at h ⊢
        cases hb : b σ S1 with
        | nx σ2 S2 => rw [hb] at h; exact whileF_more (n := n) h (by omega)
        | cont σ2 S2 => rw [hb] at h; exact whileF_more (n := n) h (by omega)
        | _ => rfl
theorem mWhile_of {t : Mt} {b : Ms} {n : Nat} {σ S} (h : whileF t b n σ S ≠ .bad) : mWhile t b σ S = whileF t b n σ S := by
  have ex : ∃ n, whileF t b n σ S ≠ .bad := ⟨n, h⟩
  unfold mWhile
  rw [dif_pos ex]
  rcases Nat.le_total ex.choose n with hn | hn
  · exact (whileF_more ex.choose_spec hn).symm
  · exact whileF_more h hn
theorem mWhile_ex {t : Mt} {b : Ms} {σ S} (h : mWhile t b σ S ≠ .bad) : ∃ n, mWhile t b σ S = whileF t b n σ S := by
  unfold mWhile at h ⊢
  by_cases ex : ∃ n, whileF t b n σ S ≠ .bad
  · rw [dif_pos ex]; exact ⟨_, rfl⟩
  · rw [dif_neg ex] at h; exact absurd rfl h
section
variable {X : Cx} {E : XK} {pos : Pos}
theorem fs_while {c : Expr} {body : List Stmt} {t : Mt} {b : Ms} (hp : PassesOwn (model X.prog X.w) X.A X.env X.xe) (hc : FT X E c t) (hb : FSs X E body b) : FS X E (.While c body [] pos) (mWhile t b) := by
  refine ps_imp (ps_while hp hc hb) fun D σ H ⟨ρ, S, σd, s, r, h⟩ => ?_
  have hne : mWhile t b σd S ≠ .bad := fun z => by rw [z] at h; exact h
  obtain ⟨n, en⟩ := mWhile_ex hne
  rw [en] at h
  refine ⟨fun m σ' H' => ∃ ρ' S' σd', Sim ρ' S' H' ∧ SRep H' ρ' σ' σd' ∧ PostS E ρ' H' D (whileF t b m σd' S'), ⟨n, ρ, S, σd, s, r, h⟩, ?_⟩
  rintro m σ' H' ⟨ρ', S', σd', s', r', h'⟩
  cases m with
  | zero => exact h'.elim
  | succ m =>
    unfold whileF at h'
    refine ⟨ρ', S', σd', s', r', (PostG.fl (rel := relB) h').mono fun k H1 ⟨ρ1, S1, k', e1, s1, q1, h1⟩ => ?_⟩
    cases (show k = k' from q1)
    cases k with
    | false => rw [if_neg Bool.false_ne_true]; exact h1 σ' ρ1 H1 .refl s1 (r'.ext s' e1)
    | true =>
      rw [if_pos rfl]
      refine ⟨fun σ2 H2 => ∃ ρ2 S2 σd2, Sim ρ2 S2 H2 ∧ SRep H2 ρ2 σ2 σd2 ∧ PostS E ρ2 H2 D (whileF t b m σd2 S2), fun σ2 H2 w => ⟨m, Nat.lt_succ_self _, w⟩, ρ1, S1, σd', s1, r'.ext s' e1, ?_⟩
      revert h1
      cases hb' : b σd' S1 with
      | nx σ4 S4 => exact fun h3 σ5 ρ5 H5 e5 s5 r5 => ⟨ρ5, S4, σ4, s5, r5, PostS.weak h3 e5⟩
      | cont σ4 S4 => exact fun h3 σ5 ρ5 H5 e5 s5 r5 => ⟨ρ5, S4, σ4, s5, r5, PostS.weak h3 e5⟩
      | brk σ4 S4 => exact fun h3 => h3
      | ret d S4 => exact fun h3 => h3
      | exc _ _ _ => exact fun h3 => h3
      | bad => exact fun h3 => h3
end

/-! ### defs -/
mutual
def D.und (k : Nat) : D → Bool
  | .tup ds => D.unds k ds
  | .loc n => decide (n < k)
  | _ => true
def D.unds (k : Nat) : List D → Bool
  | [] => true
  | d :: ds => d.und k && D.unds k ds
end
def O.und (k : Nat) : O → Bool
  | .lst ds => D.unds k ds
  | .dK kvs => kvs.all fun p => p.2.und k
  | .dT kvs => kvs.all fun p => p.2.und k
  | .ins _ fs => fs.all fun p => p.2.und k
  | .fK kvs => kvs.all fun p => p.2.und k
  | .fT kvs => kvs.all fun p => p.2.und k
mutual
theorem Rep.narrow {H ρ ρ'} (hp : ρ <+: ρ') : ∀ {v d}, Rep H ρ' v d → d.und ρ.length = true → Rep H ρ v d
  | _, _, .non, _ => .non
  | _, _, .bl _, _ => .bl _
  | _, _, .int _, _ => .int _
  | _, _, .str _, _ => .str _
  | _, _, .ty _, _ => .ty _
  | _, _, .tup e q, h => .tup e (Reps.narrow hp q (by simpa only [D.und] using h))
  | _, _, .loc (n := n) e, h => by
    have hn : n < ρ.length := by simpa only [D.und, decide_eq_true_eq] using h
    obtain ⟨t, rfl⟩ := hp
    rw [List.getElem?_append_left hn] at e
    exact .loc e
theorem Reps.narrow {H ρ ρ'} (hp : ρ <+: ρ') : ∀ {v d}, Reps H ρ' v d → D.unds ρ.length d = true → Reps H ρ v d
  | _, _, .nil, _ => .nil
  | _, _, .cons r t, h => by
    simp only [D.unds, Bool.and_eq_true] at h
    exact .cons (Rep.narrow hp r h.1) (Reps.narrow hp t h.2)
end
mutual
theorem Rep.und {H ρ} : ∀ {v d}, Rep H ρ v d → d.und ρ.length = true
  | _, _, .non => rfl
  | _, _, .bl _ => rfl
  | _, _, .int _ => rfl
  | _, _, .str _ => rfl
  | _, _, .ty _ => rfl
  | _, _, .tup e q => by simp only [D.und]; exact Reps.und q
  | _, _, .loc (n := n) e => by
    have hn : n < ρ.length := by
      rcases Nat.lt_or_ge n ρ.length with h | h
      · exact h
      · rw [List.getElem?_eq_none h] at e; cases e
    simp only [D.und, decide_eq_true_eq]; exact hn
theorem Reps.und {H ρ} : ∀ {v d}, Reps H ρ v d → D.unds ρ.length d = true
  | _, _, .nil => rfl
  | _, _, .cons r t => by simp only [D.unds, Bool.and_eq_true]; exact ⟨Rep.und r, Reps.und t⟩
end
theorem RepF.narrow {κ : Type} {H ρ ρ'} (hp : ρ <+: ρ') : ∀ {gs : List (κ × V)} {fs : List (κ × D)}, RepF H ρ' gs fs → (fs.all fun p => p.2.und ρ.length) = true → RepF H ρ gs fs
  | _, _, .nil, _ => .nil
  | _, _, .cons ⟨e, r⟩ t, h => by
    simp only [List.all_cons, Bool.and_eq_true] at h
    exact .cons ⟨e, r.narrow hp h.1⟩ (RepF.narrow hp t h.2)
theorem RepF.und {κ : Type} {H ρ} : ∀ {gs : List (κ × V)} {fs : List (κ × D)}, RepF H ρ gs fs → (fs.all fun p => p.2.und ρ.length) = true
  | _, _, .nil => rfl
  | _, _, .cons ⟨e, r⟩ t => by
    simp only [List.all_cons, Bool.and_eq_true]
    exact ⟨r.und, RepF.und t⟩
theorem RepO.narrow {H ρ ρ' a o} (hp : ρ <+: ρ') (h : RepO H ρ' a o) (hb : o.und ρ.length = true) : RepO H ρ a o := by
  cases o with
  | lst ds => obtain ⟨xs, e, q⟩ := h; exact ⟨xs, e, q.narrow hp hb⟩
  | dK kvs => obtain ⟨xs, e, q⟩ := h; exact ⟨xs, e, q.narrow hp hb⟩
  | dT kvs => obtain ⟨xs, e, q⟩ := h; exact ⟨xs, e, q.narrow hp hb⟩
  | ins C fs => obtain ⟨dx, xs, e, q⟩ := h; exact ⟨dx, xs, e, q.narrow hp hb⟩
  | fK fs => obtain ⟨dx, xs, e, q⟩ := h; exact ⟨dx, xs, e, q.narrow hp hb⟩
  | fT fs => obtain ⟨dx, xs, e, q⟩ := h; exact ⟨dx, xs, e, q.narrow hp hb⟩
theorem RepO.und {H ρ a o} (h : RepO H ρ a o) : o.und ρ.length = true := by
  cases o with
  | lst ds => obtain ⟨xs, e, q⟩ := h; exact q.und
  | dK kvs => obtain ⟨xs, e, q⟩ := h; exact q.und
  | dT kvs => obtain ⟨xs, e, q⟩ := h; exact q.und
  | ins C fs => obtain ⟨dx, xs, e, q⟩ := h; exact q.und
  | fK fs => obtain ⟨dx, xs, e, q⟩ := h; exact q.und
  | fT fs => obtain ⟨dx, xs, e, q⟩ := h; exact q.und
def keptOk (S S' : Sto) : Prop := S.length ≤ S'.length ∧ ∀ i < S.length, S'[i]? = S[i]? ∨ ∃ o, S'[i]? = some o ∧ o.und S.length = true
open Classical in
/-- behind a def: what it has made and nobody knows is dropped -/
noncomputable def trim (S : Sto) (d : D) (S' : Sto) : R D :=
  if keptOk S S' then
    (if d.und S.length = true then .ok d (S'.take S.length) else match d with
      | .loc n => (match S'[n]? with
        | some o => if o.und S.length = true then .ok (.loc S.length) (S'.take S.length ++ [o]) else .ok d S'
        | none => .ok d S')
      | d => .ok d S')
  else .ok d S'
theorem Sim.take {ρ S ρ' S' H H'} (s : Sim ρ S H) (s' : Sim ρ' S' H') (e : Ext ρ H ρ' H') (k : keptOk S S') : Sim ρ (S'.take S.length) H' := by
  refine ⟨by rw [List.length_take, Nat.min_eq_left k.1, s.len], s.nd, fun n o ho => ?_⟩
  have hn : n < S.length := by
    rcases Nat.lt_or_ge n S.length with h | h
    · exact h
    · rw [List.getElem?_eq_none (by rw [List.length_take]; omega)] at ho; cases ho
  rw [List.getElem?_take_of_lt hn] at ho
  obtain ⟨a, ea, ro⟩ := s'.at_ n o ho
  have hb : o.und ρ.length = true := by
    rcases k.2 n hn with z | ⟨o', z, hb⟩
    · rw [ho] at z
      obtain ⟨a', _, ro'⟩ := s.at_ n o z.symm
      exact ro'.und
    · rw [ho] at z; cases z; rw [s.len]; exact hb
  have hp := e.pre
  refine ⟨a, ?_, ro.narrow hp hb⟩
  obtain ⟨t, rfl⟩ := hp
  rw [List.getElem?_append_left (by rw [s.len]; exact hn)] at ea
  exact ea
theorem trim_post {E : XK} {ρ S H ρ' S' H' v d Q} (s : Sim ρ S H) (e : Ext ρ H ρ' H') (s' : Sim ρ' S' H') (r : Rep H' ρ' v d) (h : PostG Rep E ρ H Q (trim S d S')) : Q v H' := by
  have go : PostG Rep E ρ H Q (.ok d S') → Q v H' := fun h => h v ρ' H' e s' r
  unfold trim at h
  split at h
  · rename_i k
    split at h
    · rename_i hb
      exact h v ρ H' ⟨List.prefix_refl _, fun _ z n => absurd z n, e.fr, e.fz⟩ (s.take s' e k) (r.narrow e.pre (by rw [s.len]; exact hb))
    · split at h
      · rename_i n hb
        split at h
        · rename_i o ho
          split at h
          · rename_i hob
            cases r with
            | @loc a _ ea =>
              have hn : ¬ n < S.length := by simpa only [D.und, decide_eq_true_eq] using hb
              obtain ⟨a', ea', ro⟩ := s'.at_ n o ho
              rw [ea] at ea'; cases ea'
              have na : a ∉ ρ := fun z => by
                obtain ⟨j, hj, rfl⟩ := List.getElem_of_mem z
                have ej : ρ'[j]? = some ρ[j] := prefix_get e.pre (List.getElem?_eq_getElem hj)
                have : j = n := (List.getElem?_inj (by
                  have := List.IsPrefix.length_le e.pre; omega) s'.nd).mp (by rw [ej, ea])
                rw [s.len] at hj
                omega
              have hH : H a = none := e.new a (List.mem_of_getElem? ea) na
              have st := s.take s' e k
              have e2 : Ext ρ H (ρ ++ [a]) H' := ⟨List.prefix_append _ _, fun b hb2 hn2 => by
                rcases List.mem_append.mp hb2 with hb2 | hb2
                · exact absurd hb2 hn2
                · rw [List.mem_singleton.mp hb2]; exact hH, e.fr, e.fz⟩
              have ro2 : RepO H' (ρ ++ [a]) a o := (ro.narrow e.pre (by rw [s.len]; exact hob)).mono (List.prefix_append _ _) (fun _ _ h => h) fun _ h => h
              refine h _ (ρ ++ [a]) H' e2 ⟨by rw [List.length_append, List.length_append, st.len] <;> rfl, ?_, fun m w hw => ?_⟩ (.loc (by rw [← s.len]; simp))
              · refine List.nodup_append.mpr ⟨s.nd, by simp, fun b hb c hc => ?_⟩
                rintro rfl
                exact na (by rw [← List.mem_singleton.mp hc]; exact hb)
              · have hlen : (S'.take S.length).length = S.length := by rw [List.length_take, Nat.min_eq_left k.1]
                by_cases hm : m < (S'.take S.length).length
                · rw [List.getElem?_append_left hm] at hw
                  obtain ⟨b, e1, rr⟩ := st.at_ m w hw
                  exact ⟨b, prefix_get (List.prefix_append _ _) e1, rr.mono (List.prefix_append _ _) (fun _ _ h => h) fun u h => h⟩
                · have hm2 : m = (S'.take S.length).length := by
                    have : m < (S'.take S.length ++ [o]).length := by
                      rcases Nat.lt_or_ge m (S'.take S.length ++ [o]).length with h' | h'
                      · exact h'
                      · rw [List.getElem?_eq_none h'] at hw; cases hw
                    rw [List.length_append] at this
                    simp at this; simp at hm ⊢; omega
                  subst hm2
                  have h2 : o = w := by simpa using hw
                  subst h2
                  exact ⟨a, by rw [hlen, ← s.len]; simp, ro2⟩
          · exact go h
        · exact go h
      · exact go h
  · exact go h
@[simp] noncomputable def trimF (S : Sto) : Fl → R D
  | .nx _ S' => trim S .non S'
  | .ret d S' => trim S d S'
  | .exc c fs S' => .exc c fs S'
  | _ => .bad
/-- a def of n parameters and N names -/
noncomputable def runB (n N : Nat) (m : Ms) (ds : List D) (S : Sto) : R D := if ds.length = n then trimF S (m (ds.map some ++ List.replicate (N - n) none) S) else .bad
theorem start_rep {N : List Str} {vs : List V} {ds : List D} {H ρ} (q : Reps H ρ vs ds) (hn : ds.length ≤ N.length) : SRep H ρ (L2.start N vs) (ds.map some ++ List.replicate (N.length - ds.length) none) := by
  have hl := q.length
  refine ⟨by unfold L2.start; simp [hl], fun i d h => ?_⟩
  have hi : i < ds.length := by
    rcases Nat.lt_or_ge i ds.length with h' | h'
    · exact h'
    · rw [List.getElem?_append_right (by simpa using h'), List.getElem?_replicate] at h
      split at h <;> cases h
  rw [List.getElem?_append_left (by simpa using hi), List.getElem?_map] at h
  cases hd : ds[i]? with
  | none => rw [hd] at h; cases h
  | some d' =>
    rw [hd] at h
    cases h
    obtain ⟨v, e1, r⟩ := q.get hd
    refine ⟨v, ?_, r⟩
    unfold L2.start
    rw [List.getElem?_append_left (by rw [List.length_map, hl]; exact hi), List.getElem?_map, e1]
    rfl
theorem runB_len {n N m ds S E ρ H Q} (h : PostG Rep E ρ H Q (runB n N m ds S)) : ds.length = n := by
  unfold runB at h
  split at h
  · assumption
  · exact h.elim
theorem runB_body {E : XK} {N : List Str} {n m ds S ρ H Q vs} (s : Sim ρ S H) (q : Reps H ρ vs ds) (hN : n ≤ N.length) (h : PostG Rep E ρ H Q (runB n N.length m ds S)) :
    tFS E m { nx := fun _ H' => Q .non H', rt := Q } (L2.start N vs) H := by
  have hl := runB_len h
  unfold runB at h
  rw [if_pos hl] at h
  subst hl
  refine ⟨ρ, S, _, s, start_rep q hN, ?_⟩
  revert h
  cases hm : m (ds.map some ++ List.replicate (N.length - ds.length) none) S with
  | nx σ' S' => exact fun h σ1 ρ1 H1 e1 s1 r1 => trim_post s e1 s1 .non h
  | ret d S' => exact fun h v ρ1 H1 e1 s1 r1 => trim_post s e1 s1 r1 h
  | brk _ _ => exact fun h => h.elim
  | cont _ _ => exact fun h => h.elim
  | exc _ _ _ => exact fun h => h
  | bad => exact fun h => h
theorem pass0' {X : Cx} {E : XK} : Passes CX0 X E := fun _ _ _ _ _ _ _ h => h.elim
section
variable {P : Program} {w : World} {K : PySem.W.Frag} {mg : Str → Option Value} {base : Heap}
/-- a def that lets no exception out does what its body's reading tells -/
theorem okF {x qual : Str} {st : Stmt} {f : Addr} {fd : FuncData} {N ps : List Str} {k : Nat} {m : Ms} (F : Fun K x qual st f fd) (S : FnScope N ps (defScope st)) (hN : ps.length ≤ N.length)
    (hbody : ∀ (cdv : Value) (A : Around) (outer : List Env) (s : Shared) (H : Hp) (E : XK), Room k (A.deeper (envOfC qual (defScope st) s.heap.objs.size f cdv)) →
      FSs (cxOf CX0 P w K mg base N qual (defScope st) f cdv A outer s H E).nox E (defBody st) m) : FnOk P w K mg base CX0 (k + 1) f fd ps (spF (runB ps.length N.length m)) := by
  refine F.ok S (fun vs H Q E ⟨ρ, S, ds, s, q, h⟩ => ?_) fun cdv A outer s H vs Q E hr ⟨ρ, S, ds, s', q, h⟩ => ⟨_, hbody cdv A outer s H E hr, runB_body s' q hN h⟩
  rw [q.length]
  exact runB_len h
end
end FL
set_option Elab.async false
set_option linter.all false
set_option maxRecDepth 100000
set_option maxHeartbeats 4000000
/-! FL6: operators, built-ins, subscripts. -/
namespace FL
open PySem PySem.Spec PyProof.Rows L2
theorem OpR.or {X : Cx} {g : Value → Value → Sem Value} {r r' : R2} (h : OpR X g r) (h' : OpR X g r') : OpR X g (fun x y H Q => r x y H Q ∨ r' x y H Q) := fun pins s σ H x y v u Q I rx ry q =>
  q.elim (h pins s σ H x y v u Q I rx ry) (h' pins s σ H x y v u Q I rx ry)
theorem CallR.or {X : Cx} {g : Value} {r r' : List V → Hp → VK → Prop} (h : CallR X g r) (h' : CallR X g r') : CallR X g (fun x H Q => r x H Q ∨ r' x H Q) := fun pins s σ H x v Q I rx q =>
  q.elim (h pins s σ H x v Q I rx) (h' pins s σ H x v Q I rx)
section
variable {X : Cx} {E : XK}
/-! ### arithmetic -/
noncomputable def fAdd : Fn2
  | .int i, .int j, S => .ok (.int (i + j)) S
  | .str a, .str b, S => if a.length + b.length ≤ sizeLine then .ok (.str (a ++ b)) S else .bad
  | .tup a, .tup b, S => if a.length + b.length ≤ sizeLine then .ok (.tup (a ++ b)) S else .bad
  | .loc n, .loc m, S => match S[n]?, S[m]? with
    | some (.lst a), some (.lst b) => if a.length + b.length ≤ sizeLine then .ok (.loc S.length) (S ++ [.lst (a ++ b)]) else .bad
    | _, _ => .bad
  | _, _, _ => .bad
theorem Reps.append {H ρ} : ∀ {vs ds us es}, Reps H ρ vs ds → Reps H ρ us es → Reps H ρ (vs ++ us) (ds ++ es)
  | _, _, _, _, .nil, s => s
  | _, _, _, _, .cons r t, s => .cons r (Reps.append t s)
theorem op_addF : OpF X E (binaryOp .Add) fAdd := by
  refine ⟨_, OpR.or op_add (OpR.or op_add_str (OpR.or op_catA op_cat)), fun ρ S H x y dx dy Q s rx ry h => ?_⟩
  unfold fAdd at h
  split at h
  · cases rx; cases ry
    exact .inl ⟨_, _, rfl, rfl, h.here s (.int _)⟩
  · cases rx; cases ry
    split at h
    · rename_i hz
      exact .inr (.inl ⟨_, _, rfl, rfl, hz, h.here s (.str _)⟩)
    · exact h.elim
  · split at h
    · rename_i hz
      cases rx with
      | tup ex qx =>
        cases ry with
        | tup ey qy =>
          refine .inr (.inr (.inl ⟨_, _, _, _, rfl, rfl, .of ex, .of ey, by rw [qx.length, qy.length]; exact hz, fun hx => ?_, fun hx hy => ?_, fun hx hy => new_tup s (qx.append qy) h⟩))
          · subst hx
            cases qx
            exact h.here s (.tup ey qy)
          · subst hy
            cases qy
            rw [List.append_nil] at h
            exact h.here s (.tup ex qx)
    · exact h.elim
  · split at h
    · rename_i ha hb
      split at h
      · rename_i hz
        cases rx with
        | loc ex =>
          cases ry with
          | loc ey =>
            obtain ⟨a, ea, xs, hx, qx⟩ := s.at_ _ _ ha
            obtain ⟨b, eb, ys, hy, qy⟩ := s.at_ _ _ hb
            rw [ex] at ea; cases ea
            rw [ey] at eb; cases eb
            exact .inr (.inr (.inr ⟨_, _, xs, ys, rfl, rfl, hx, hy, by rw [qx.length, qy.length]; exact hz, new_lst s (qx.append qy) h⟩))
      · exact h.elim
    · exact h.elim
  · exact h.elim
@[simp] def smallI (i : Int) : Bool := decide (-(2 ^ 64) < i) && decide (i < 2 ^ 64)
@[simp] def fInt2 (C : Int → Int → Bool) (g : Int → Int → D) (x y : D) (S : Sto) : R D := match x, y with
  | .int i, .int j => if C i j = true then .ok (g i j) S else .bad
  | _, _ => .bad
theorem op_int2 {op : Value → Value → Sem Value} {C : Int → Int → Prop} {Cb : Int → Int → Bool} {g : Int → Int → V} {gd : Int → Int → D} (h : OpR X op (rI C g)) (hC : ∀ i j, Cb i j = true → C i j) (hg : ∀ H ρ i j, Rep H ρ (g i j) (gd i j)) : OpF X E op (fInt2 Cb gd) := by
  refine ⟨_, h, fun ρ S H x y dx dy Q s rx ry h => ?_⟩
  unfold fInt2 at h
  split at h
  · cases rx; cases ry
    split at h
    · exact ⟨_, _, rfl, rfl, hC _ _ (by assumption), h.here s (hg _ _ _ _)⟩
    · exact h.elim
  · exact h.elim
@[simp] def fInt20 (g : Int → Int → D) (x y : D) (S : Sto) : R D := match x, y with
  | .int i, .int j => .ok (g i j) S
  | _, _ => .bad
theorem op_int20 {op : Value → Value → Sem Value} {g : Int → Int → V} {gd : Int → Int → D} (h : OpR X op (rI0 g)) (hg : ∀ H ρ i j, Rep H ρ (g i j) (gd i j)) : OpF X E op (fInt20 gd) := by
  refine ⟨_, h, fun ρ S H x y dx dy Q s rx ry h => ?_⟩
  unfold fInt20 at h
  split at h
  · cases rx; cases ry
    exact ⟨_, _, rfl, rfl, h.here s (hg _ _ _ _)⟩
  · exact h.elim
abbrev fSub : Fn2 := fInt20 fun i j => .int (i - j)
theorem op_subF : OpF X E (binaryOp .Sub) fSub := op_int20 op_sub fun _ _ _ _ => .int _
abbrev fMul : Fn2 := fInt2 (fun i j => smallI i || smallI j) fun i j => .int (i * j)
theorem op_mulF : OpF X E (binaryOp .Mult) fMul := op_int2 op_mul (fun i j h => by
  simp only [smallI, Bool.or_eq_true, Bool.and_eq_true, decide_eq_true_eq] at h
  exact h) fun _ _ _ _ => .int _
abbrev fDiv : Fn2 := fInt2 (fun _ j => decide (j ≠ 0) && decide (j.natAbs < 1073741824)) fun i j => .int (i.fdiv j)
theorem op_divF : OpF X E (binaryOp .FloorDiv) fDiv := op_int2 op_fdivN (fun i j h => by
  simp only [Bool.and_eq_true, decide_eq_true_eq] at h
  exact h) fun _ _ _ _ => .int _
abbrev fMod : Fn2 := fInt2 (fun _ j => decide (j ≠ 0)) fun i j => .int (i.fmod j)
theorem op_modF : OpF X E (binaryOp .Mod) fMod := op_int2 op_modN (fun i j h => by simpa using h) fun _ _ _ _ => .int _
@[simp] def powOk (i j : Int) : Bool := decide (0 ≤ j) && decide (j ≤ 1000000) && decide (i.natAbs < 2 ^ 64)
theorem powOk_of {i j : Int} (h : powOk i j = true) : CPow i j := by
  simp only [powOk, Bool.and_eq_true, decide_eq_true_eq] at h
  exact ⟨h.1.1, h.1.2, h.2⟩
abbrev fPow : Fn2 := fInt2 powOk fun i j => .int (i ^ j.toNat)
theorem op_powF : OpF X E (binaryOp .Pow) fPow := op_int2 op_pow (fun _ _ h => powOk_of h) fun _ _ _ _ => .int _
abbrev fShl : Fn2 := fInt2 powOk fun i j => .int (i * 2 ^ j.toNat)
theorem op_shlF : OpF X E (binaryOp .LShift) fShl := op_int2 op_shl (fun _ _ h => powOk_of h) fun _ _ _ _ => .int _
@[simp] def fNeg (x : D) (S : Sto) : R D := match x with
  | .int i => .ok (.int (-i)) S
  | _ => .bad
theorem un_negF : UnF X E (unaryOp .USub) fNeg := by
  refine ⟨_, un_neg, fun ρ S H x dx Q s rx h => ?_⟩
  unfold fNeg at h
  split at h
  · cases rx; exact ⟨_, rfl, h.here s (.int _)⟩
  · exact h.elim
/-! ### == of data -/
mutual
def D.py : D → Option PyData
  | .non => some .none
  | .bl b => some (.bool b)
  | .int i => some (.int i)
  | .str x => some (.str x)
  | .tup ds => (D.pys ds).map .tuple
  | .ty _ => none
  | .loc _ => none
def D.pys : List D → Option (List PyData)
  | [] => some []
  | d :: ds => (D.py d).bind fun x => (D.pys ds).map (x :: ·)
end
/-- .. a list of the store at the outside, too -/
def D.pyS (S : Sto) : D → Option PyData
  | .loc n => match S[n]? with
    | some (.lst ds) => (D.pys ds).map .list
    | _ => none
  | d => d.py
mutual
theorem Rep.dp {K : PySem.W.Frag} {H ρ} : ∀ {d : D} {v : V} {x : PyData}, Rep H ρ v d → d.py = some x → Dp K H v x
  | .non, _, _, .non, e => by cases e; exact .non
  | .bl _, _, _, .bl _, e => by cases e; exact .bl _
  | .int _, _, _, .int _, e => by cases e; exact .int _
  | .str _, _, _, .str _, e => by cases e; exact .str _
  | .ty _, _, _, .ty _, e => by cases e
  | .loc _, _, _, .loc _, e => by cases e
  | .tup ds, _, _, .tup ha q, e => by
    simp only [D.py, Option.map_eq_some_iff] at e
    obtain ⟨xs, e, rfl⟩ := e
    exact .tup (.of ha) (Reps.dp q e)
theorem Reps.dp {K : PySem.W.Frag} {H ρ} : ∀ {ds : List D} {vs : List V} {xs : List PyData}, Reps H ρ vs ds → D.pys ds = some xs → DpAll K H vs xs
  | [], _, _, .nil, e => by cases e; exact .nil
  | d :: ds, _, _, .cons r t, e => by
    simp only [D.pys, Option.bind_eq_some_iff, Option.map_eq_some_iff] at e
    obtain ⟨x, e1, xs, e2, rfl⟩ := e
    exact .cons (Rep.dp r e1) (Reps.dp t e2)
end
theorem Rep.dpS {K : PySem.W.Frag} {H ρ S d v x} (s : Sim ρ S H) (r : Rep H ρ v d) (e : d.pyS S = some x) : Dp K H v x := by
  cases d with
  | loc n =>
    simp only [D.pyS] at e
    split at e
    · rename_i ds hS
      simp only [Option.map_eq_some_iff] at e
      obtain ⟨xs, e, rfl⟩ := e
      cases r with
      | loc ea =>
        obtain ⟨a, ea', ys, hy, q⟩ := s.at_ _ _ hS
        rw [ea] at ea'; cases ea'
        exact .lst (.of hy) (q.dp e)
    · cases e
  | _ => exact Rep.dp r e
/-- what == says of two data -/
def D.eqv (S : Sto) (x y : D) : Option Bool := (x.pyS S).bind fun a => (y.pyS S).bind fun b => if (SeqAt.shaped a && SeqAt.shaped b) = true then some (PyData.eqv a b) else none
def fEqv (neg : Bool) : Fn2
  | .int i, .int j, S => .ok (.bl (neg ^^ decide (i = j))) S
  | .str i, .str j, S => .ok (.bl (neg ^^ decide (i = j))) S
  | .bl i, .bl j, S => .ok (.bl (neg ^^ decide (i = j))) S
  | x, y, S => match D.eqv S x y with
    | some b => .ok (.bl (neg ^^ b)) S
    | none => .bad
abbrev fEq : Fn2 := fEqv false
abbrev fNe : Fn2 := fEqv true
theorem eqv_some {S x y b} (h : D.eqv S x y = some b) : ∃ a c, x.pyS S = some a ∧ y.pyS S = some c ∧ SeqAt.shaped a = true ∧ SeqAt.shaped c = true ∧ b = PyData.eqv a c := by
  simp only [D.eqv, Option.bind_eq_some_iff] at h
  obtain ⟨a, ha, c, hc, h⟩ := h
  split at h
  · rename_i hs
    simp only [Bool.and_eq_true] at hs
    cases h
    exact ⟨a, c, ha, hc, hs.1, hs.2, rfl⟩
  · cases h
theorem op_eqF (hu : X.A.units + 64 < cLine) : OpF X E (compareOp .Eq) fEq := by
  refine ⟨_, OpR.or op_eq (op_eqD hu), fun ρ S H x y dx dy Q s rx ry h => ?_⟩
  unfold fEq fEqv at h
  split at h
  · cases rx; cases ry
    refine .inl ⟨rfl, ?_⟩
    have := h.here s (.bl _)
    simpa using this
  · cases rx; cases ry
    refine .inl ⟨rfl, ?_⟩
    have := h.here s (.bl _)
    simpa using this
  · cases rx; cases ry
    refine .inl ⟨rfl, ?_⟩
    have := h.here s (.bl _)
    simpa using this
  · split at h
    · rename_i b hb
      obtain ⟨a, c, h1, h2, h3, h4, rfl⟩ := eqv_some hb
      have := h.here s (.bl _)
      exact .inr ⟨a, c, rx.dpS s h1, ry.dpS s h2, h3, h4, by simpa using this⟩
    · exact h.elim
theorem op_neF (hu : X.A.units + 64 < cLine) : OpF X E (compareOp .NotEq) fNe := by
  refine ⟨_, OpR.or op_ne (op_neD hu), fun ρ S H x y dx dy Q s rx ry h => ?_⟩
  unfold fNe fEqv at h
  split at h
  · cases rx; cases ry
    refine .inl ⟨rfl, ?_⟩
    have := h.here s (.bl _)
    simpa using this
  · cases rx; cases ry
    refine .inl ⟨rfl, ?_⟩
    have := h.here s (.bl _)
    simpa using this
  · cases rx; cases ry
    refine .inl ⟨rfl, ?_⟩
    have := h.here s (.bl _)
    simpa using this
  · split at h
    · rename_i b hb
      obtain ⟨a, c, h1, h2, h3, h4, rfl⟩ := eqv_some hb
      have := h.here s (.bl _)
      exact .inr ⟨a, c, rx.dpS s h1, ry.dpS s h2, h3, h4, by simpa using this⟩
    · exact h.elim
abbrev fLt : Fn2 := fInt20 fun i j => .bl (decide (i < j))
abbrev fLe : Fn2 := fInt20 fun i j => .bl (decide (i ≤ j))
abbrev fGt : Fn2 := fInt20 fun i j => .bl (decide (j < i))
abbrev fGe : Fn2 := fInt20 fun i j => .bl (decide (j ≤ i))
theorem op_ltF : OpF X E (compareOp .Lt) fLt := op_int20 op_lt fun _ _ _ _ => .bl _
theorem op_leF : OpF X E (compareOp .LtE) fLe := op_int20 op_le fun _ _ _ _ => .bl _
theorem op_gtF : OpF X E (compareOp .Gt) fGt := op_int20 op_gt fun _ _ _ _ => .bl _
theorem op_geF : OpF X E (compareOp .GtE) fGe := op_int20 op_ge fun _ _ _ _ => .bl _
@[simp] def D.isNon : D → Bool
  | .non => true
  | _ => false
@[simp] def fIs (neg : Bool) (x y : D) (S : Sto) : R D := if y.isNon = true then .ok (.bl (neg ^^ x.isNon)) S else .bad
theorem isNon_rep {H ρ v d} (r : Rep H ρ v d) : d.isNon = decide (v = .non) := by cases r <;> rfl
theorem op_isF : OpF X E (compareOp .Is) (fIs false) := by
  refine ⟨_, op_isN, fun ρ S H x y dx dy Q s rx ry h => ?_⟩
  unfold fIs at h
  split at h
  · rename_i hn
    rw [isNon_rep ry, decide_eq_true_eq] at hn
    have := h.here s (.bl _)
    rw [isNon_rep rx] at this
    exact ⟨hn, by simpa using this⟩
  · exact h.elim
theorem op_isNotF : OpF X E (compareOp .IsNot) (fIs true) := by
  refine ⟨_, op_notN, fun ρ S H x y dx dy Q s rx ry h => ?_⟩
  unfold fIs at h
  split at h
  · rename_i hn
    rw [isNon_rep ry, decide_eq_true_eq] at hn
    have := h.here s (.bl _)
    rw [isNon_rep rx] at this
    exact ⟨hn, by simpa using this⟩
  · exact h.elim
/-! ### subscripts -/
@[simp] def fIx : Fn2
  | .loc n, .int i, S => match S[n]? with
    | some (.lst ds) => match atI ds i with
      | some d => .ok d S
      | none => .bad
    | _ => .bad
  | .tup ds, .int i, S => match atI ds i with
      | some d => .ok d S
      | none => .bad
  | _, _, _ => .bad
theorem atI_rep {H ρ vs ds i d} (q : Reps H ρ vs ds) (h : atI ds i = some d) : ∃ v, atI vs i = some v ∧ Rep H ρ v d := by
  simp only [atI, Option.bind_eq_some_iff] at h
  obtain ⟨j, h1, h2⟩ := h
  obtain ⟨v, h3, r⟩ := q.get h2
  exact ⟨v, by simp only [atI, q.length, h1]; exact h3, r⟩
theorem ix_F : IxF X E fIx := by
  refine ⟨_, IxR.or ix_list ix_tup, fun ρ S H x y dx dy Q s rx ry h => ?_⟩
  unfold fIx at h
  split at h
  · split at h
    · rename_i hS
      split at h
      · rename_i hd
        cases rx with
        | loc ea =>
          cases ry
          obtain ⟨a, ea', xs, hx, q⟩ := s.at_ _ _ hS
          rw [ea] at ea'; cases ea'
          obtain ⟨v, hv, r⟩ := atI_rep q hd
          exact .inl ⟨_, xs, _, v, rfl, rfl, .of hx, hv, h.here s r⟩
      · exact h.elim
    · exact h.elim
  · split at h
    · rename_i hd
      cases rx with
      | tup hx q =>
        cases ry
        obtain ⟨v, hv, r⟩ := atI_rep q hd
        exact .inr ⟨_, _, _, v, rfl, rfl, .of hx, hv, h.here s r⟩
    · exact h.elim
  · exact h.elim
theorem get_list : PGet X (rIxL X.K) := by
  intro pins s σ H o i ov iv Q I ro ri h
  obtain ⟨p, xs, k, z, rfl, rfl, hq, he, q⟩ := h
  cases ro
  obtain ⟨t, rfl⟩ := ri
  obtain ⟨its, r, pl, hz⟩ := I.list hq
  obtain ⟨j, h1, h2, h3, h4, h5⟩ := atI_get he
  obtain ⟨w, ew, rw'⟩ := r.get h2
  have hl := r.length
  have hn := line63
  have fin : EP X pins σ Q w s := ⟨z, H, I, rw', q⟩
  by_cases h0 : 0 ≤ k
  · have hj : k.toNat = j := by
      rw [seqIndex_of h0 h5] at h1
      exact Option.some.inj h1
    exact wpAny_getItem_list pl.isList h0 (by omega) (by rw [hj]; simpa using ew) fin
  · have hj : (k + (its.toArray.size : Int)).toNat = j := by
      rw [seqIndex_neg (by omega) h4] at h1
      rw [List.size_toArray, ← hl]
      exact Option.some.inj h1
    exact wpAny_getItem_list_neg pl.isList (by omega) (by rw [List.size_toArray] <;> omega) (by omega) (by rw [hj]; simpa using ew) fin
@[simp] def fGetL : Fn2
  | .loc n, .int i, S => match S[n]? with
    | some (.lst ds) => match atI ds i with
      | some d => .ok d S
      | none => .bad
    | _ => .bad
  | _, _, _ => .bad
theorem get_listF : GetF X E fGetL := by
  refine ⟨_, get_list, fun ρ S H x y dx dy Q s rx ry h => ?_⟩
  unfold fGetL at h
  split at h
  · split at h
    · rename_i hS
      split at h
      · rename_i hd
        cases rx with
        | loc ea =>
          cases ry
          obtain ⟨a, ea', xs, hx, q⟩ := s.at_ _ _ hS
          rw [ea] at ea'; cases ea'
          obtain ⟨v, hv, r⟩ := atI_rep q hd
          exact ⟨_, xs, _, v, rfl, rfl, .of hx, hv, h.here s r⟩
      · exact h.elim
    · exact h.elim
  · exact h.elim
@[simp] def fSetL (o i v : D) (S : Sto) : Option Sto := match o, i with
  | .loc n, .int k => match S[n]? with
    | some (.lst ds) => match ixN ds.length k with
      | some j => some (S.set n (.lst (ds.set j v)))
      | none => none
    | _ => none
  | _, _ => none
theorem Reps.set {H ρ v d} (r : Rep H ρ v d) : ∀ {vs ds} (i : Nat), Reps H ρ vs ds → Reps H ρ (vs.set i v) (ds.set i d)
  | _, _, _, .nil => .nil
  | _, _, 0, .cons _ t => .cons r t
  | _, _, i + 1, .cons q t => .cons q (Reps.set r i t)
theorem set_listF : SetF X fSetL := by
  refine ⟨_, set_list, fun ρ S H o i v do_ di dv S' Q s ro ri rv h k => ?_⟩
  unfold fSetL at h
  split at h
  · split at h
    · rename_i hS
      split at h
      · rename_i hj
        cases h
        cases ro with
        | loc ea =>
          cases ri
          obtain ⟨a, ea', xs, hx, q⟩ := s.at_ _ _ hS
          rw [ea] at ea'; cases ea'
          have tt : ∀ b ys (u : HO), H b = some (.tup ys) → (upd H _ u) b = some (.tup ys) := fun b ys u hb => by rw [upd_ne (ne_of hb hx (fun z => nomatch z))]; exact hb
          obtain ⟨e1, s1⟩ := s.set (o := .lst (_ : List D)) ea hx rfl ⟨_, upd_same, (q.set rv _).mono (List.prefix_refl _) fun b ys hb => tt b ys _ hb⟩
          exact ⟨_, xs, _, _, rfl, rfl, hx, by rw [q.length]; exact hj, k _ e1 s1⟩
      · cases h
    · cases h
  · cases h
/-! ### op= -/
@[simp] def fIpAdd : Fn2
  | .int i, .int j, S => .ok (.int (i + j)) S
  | _, _, _ => .bad
theorem ip_addF : IpF X E .Add fIpAdd := by
  refine ⟨_, ip_add, fun ρ S H x y dx dy Q s rx ry h => ?_⟩
  unfold fIpAdd at h
  split at h
  · cases rx; cases ry
    exact ⟨_, _, rfl, rfl, h.here s (.int _)⟩
  · exact h.elim
@[simp] def fIpSub : Fn2
  | .int i, .int j, S => .ok (.int (i - j)) S
  | _, _, _ => .bad
theorem ip_subF : IpF X E .Sub fIpSub := by
  refine ⟨_, ip_sub, fun ρ S H x y dx dy Q s rx ry h => ?_⟩
  unfold fIpSub at h
  split at h
  · cases rx; cases ry
    exact ⟨_, _, rfl, rfl, h.here s (.int _)⟩
  · exact h.elim
/-! ### built-ins -/
theorem reps1 {H ρ} : ∀ {vs d}, Reps H ρ vs [d] → ∃ v, vs = [v] ∧ Rep H ρ v d
  | _, _, .cons r .nil => ⟨_, rfl, r⟩
theorem reps2 {H ρ} : ∀ {vs d e}, Reps H ρ vs [d, e] → ∃ v w, vs = [v, w] ∧ Rep H ρ v d ∧ Rep H ρ w e
  | _, _, _, .cons r (.cons q .nil) => ⟨_, _, rfl, r, q⟩
@[simp] def fAbs : FnL
  | [.int i], S => .ok (.int (if i < 0 then -i else i)) S
  | _, _ => .bad
theorem call_absF : CallF X E (.builtin "abs") fAbs := by
  refine ⟨_, call_abs, fun ρ S H xs ds Q s q h => ?_⟩
  unfold fAbs at h
  split at h
  · obtain ⟨v, rfl, r⟩ := reps1 q
    cases r
    exact ⟨_, rfl, h.here s (.int _)⟩
  · exact h.elim
@[simp] def fInt : FnL
  | [.int i], S => .ok (.int i) S
  | [.bl k], S => .ok (.int (if k then 1 else 0)) S
  | _, _ => .bad
theorem call_intF : CallF X E (.type "int") fInt := by
  refine ⟨_, call_int1, fun ρ S H xs ds Q s q h => ?_⟩
  unfold fInt at h
  split at h
  · obtain ⟨v, rfl, r⟩ := reps1 q
    cases r
    exact .inl ⟨_, rfl, h.here s (.int _)⟩
  · obtain ⟨v, rfl, r⟩ := reps1 q
    cases r
    exact .inr ⟨_, rfl, h.here s (.int _)⟩
  · exact h.elim
@[simp] def fMax2 : FnL
  | [.int i, .int j], S => .ok (.int (if j > i then j else i)) S
  | _, _ => .bad
theorem call_max2F (hc : X.calm = true) : CallF X E (.builtin "max") fMax2 := by
  refine ⟨_, call_max2 hc, fun ρ S H xs ds Q s q h => ?_⟩
  unfold fMax2 at h
  split at h
  · obtain ⟨v, w, rfl, r, r'⟩ := reps2 q
    cases r; cases r'
    exact ⟨_, _, rfl, h.here s (.int _)⟩
  · exact h.elim
@[simp] def fMin2 : FnL
  | [.int i, .int j], S => .ok (.int (if j < i then j else i)) S
  | _, _ => .bad
theorem call_min2F (hc : X.calm = true) : CallF X E (.builtin "min") fMin2 := by
  refine ⟨_, call_min2 hc, fun ρ S H xs ds Q s q h => ?_⟩
  unfold fMin2 at h
  split at h
  · obtain ⟨v, w, rfl, r, r'⟩ := reps2 q
    cases r; cases r'
    exact ⟨_, _, rfl, h.here s (.int _)⟩
  · exact h.elim
noncomputable def fLen : FnL
  | [.loc n], S => match S[n]? with
    | some (.lst ds) => .ok (.int ds.length) S
    | _ => .bad
  | [.tup ds], S => .ok (.int ds.length) S
  | [.str x], S => if x.length ≤ sizeLine then .ok (.int x.length) S else .bad
  | _, _ => .bad
theorem call_lenF : CallF X E (.builtin "len") fLen := by
  refine ⟨_, call_len, fun ρ S H xs ds Q s q h => ?_⟩
  unfold fLen at h
  split at h
  · split at h
    · rename_i hS
      obtain ⟨v, rfl, r⟩ := reps1 q
      cases r with
      | loc ea =>
        obtain ⟨a, ea', xs, hx, q⟩ := s.at_ _ _ hS
        rw [ea] at ea'; cases ea'
        exact ⟨_, xs.length, rfl, .inl ⟨xs, .of hx, rfl⟩, h.here s (by rw [q.length]; exact .int _)⟩
    · exact h.elim
  · obtain ⟨v, rfl, r⟩ := reps1 q
    cases r with
    | tup hx q => exact ⟨_, _, rfl, .inr ⟨_, .of hx, rfl⟩, h.here s (by rw [q.length]; exact .int _)⟩
  · obtain ⟨v, rfl, r⟩ := reps1 q
    cases r
    split at h
    · exact ⟨_, _, rfl, ⟨by assumption, rfl⟩, h.here s (.int _)⟩
    · exact h.elim
  · exact h.elim
/-- the name of a datum's type -/
@[simp] def tyN (S : Sto) : D → Option String
  | .non => some "NoneType"
  | .bl _ => some "bool"
  | .int _ => some "int"
  | .str _ => some "str"
  | .tup _ => some "tuple"
  | .ty _ => none
  | .loc n => match S[n]? with
    | some (.lst _) => some "list"
    | some (.dK _) => some "dict"
    | some (.dT _) => some "dict"
    | _ => none
theorem tyN_of {K : PySem.W.Frag} {ρ S H v d t} (s : Sim ρ S H) (r : Rep H ρ v d) (h : tyN S d = some t) : TyX K H v (.type t) := by
  refine .base ?_
  cases r with
  | non => cases h; exact .non
  | bl _ => cases h; exact .bl _
  | int _ => cases h; exact .int _
  | str _ => cases h; exact .str _
  | ty _ => cases h
  | tup e _ => cases h; exact .tup e
  | loc ea =>
    simp only [tyN] at h
    split at h
    · rename_i hS
      obtain ⟨a, ea', xs, hx, q⟩ := s.at_ _ _ hS
      rw [ea] at ea'; cases ea'; cases h
      exact .lst hx
    · rename_i hS
      obtain ⟨a, ea', xs, hx, q⟩ := s.at_ _ _ hS
      rw [ea] at ea'; cases ea'; cases h
      exact .dK hx
    · rename_i hS
      obtain ⟨a, ea', xs, hx, q⟩ := s.at_ _ _ hS
      rw [ea] at ea'; cases ea'; cases h
      exact .dT hx
    · cases h
@[simp] def fIsi : FnL
  | [x, .ty n], S => match tyN S x with
    | some t => match kitB t n with
      | some b => .ok (.bl b) S
      | none => .bad
    | none => .bad
  | _, _ => .bad
theorem call_isiF : CallF X E (.builtin "isinstance") fIsi := by
  refine ⟨_, call_isi, fun ρ S H xs ds Q s q h => ?_⟩
  unfold fIsi at h
  split at h
  · split at h
    · rename_i ht
      split at h
      · rename_i hb
        obtain ⟨v, w, rfl, r, r'⟩ := reps2 q
        cases r'
        exact ⟨v, _, _, _, _, rfl, .ty _, tyN_of s r ht, kit_ty hb, h.here s (.bl _)⟩
      · exact h.elim
    · exact h.elim
  · exact h.elim
end
end FL
set_option Elab.async false
set_option linter.all false
set_option maxRecDepth 100000
set_option maxHeartbeats 4000000
/-! FLa: dicts, slices, chains, methods of lists, more built-ins, ranges with a step. -/
namespace FL
open PySem PySem.Spec PyProof.Rows L2
theorem MtM.mtr {X : Cx} {id : String} {r : V → List V → Hp → VK → Prop} (h : MtM X id r) : MtR X id r := h
/-! ### tables -/
section
variable {κ : Type} [DecidableEq κ]
def valD (kvs : List (κ × D)) (k : κ) : Option D := (kvs.find? fun kv => decide (kv.1 = k)).map (·.2)
def putD (kvs : List (κ × D)) (k : κ) (v : D) : List (κ × D) :=
  if (kvs.any fun kv => decide (kv.1 = k)) = true then kvs.map (fun kv => if kv.1 = k then (kv.1, v) else kv) else kvs ++ [(k, v)]
theorem RepF.val {H ρ} : ∀ {gs : List (κ × V)} {fs : List (κ × D)}, RepF H ρ gs fs → ∀ k, (∀ d, valD fs k = some d → ∃ v, valV gs k = some v ∧ Rep H ρ v d) ∧ (valD fs k = none → valV gs k = none)
  | _, _, .nil, k => ⟨fun d h => (by cases h), fun _ => rfl⟩
  | _, _, .cons (a := a) (b := b) ⟨e, r⟩ t, k => by
    have ih := RepF.val t k
    by_cases hk : a.1 = k
    · have hb : b.1 = k := by rw [← e]; exact hk
      simp only [valD, valV, List.find?_cons, hk, hb, decide_true, Option.map_some]
      exact ⟨fun d h => ⟨_, rfl, by cases h; exact r⟩, fun h => (nomatch h)⟩
    · have hb : ¬ b.1 = k := by rw [← e]; exact hk
      simp only [valD, valV, List.find?_cons, hk, hb, decide_false] at ih ⊢
      exact ih
theorem RepF.any {H ρ} : ∀ {gs : List (κ × V)} {fs : List (κ × D)}, RepF H ρ gs fs → ∀ k, (gs.any fun kv => decide (kv.1 = k)) = fs.any fun kv => decide (kv.1 = k)
  | _, _, .nil, k => rfl
  | _, _, .cons (a := a) (b := b) ⟨e, r⟩ t, k => by rw [List.any_cons, List.any_cons, RepF.any t k, e]
theorem RepF.app {H ρ} : ∀ {gs gs' : List (κ × V)} {fs fs' : List (κ × D)}, RepF H ρ gs fs → RepF H ρ gs' fs' → RepF H ρ (gs ++ gs') (fs ++ fs')
  | _, _, _, _, .nil, s => s
  | _, _, _, _, .cons r t, s => .cons r (RepF.app t s)
theorem RepF.put {H ρ v d} {gs : List (κ × V)} {fs : List (κ × D)} (q : RepF H ρ gs fs) (k : κ) (r : Rep H ρ v d) : RepF H ρ (putK gs k v) (putD fs k d) := by
  unfold putK putD
  rw [q.any k]
  split
  · induction q with
    | nil => exact .nil
    | @cons a b l1 l2 h t ih =>
      obtain ⟨e, r'⟩ := h
      refine .cons ?_ (by
        clear ih
        rename_i hx
        clear hx
        induction t with
        | nil => exact .nil
        | @cons a' b' _ _ h' t' ih' =>
          refine .cons ?_ ih'
          dsimp only
          by_cases hk : a'.1 = k
          · rw [if_pos hk, if_pos (by rw [← h'.1]; exact hk)]; exact ⟨h'.1, r⟩
          · rw [if_neg hk, if_neg (by rw [← h'.1]; exact hk)]; exact h')
      dsimp only
      by_cases hk : a.1 = k
      · rw [if_pos hk, if_pos (by rw [← e]; exact hk)]; exact ⟨e, r⟩
      · rw [if_neg hk, if_neg (by rw [← e]; exact hk)]; exact ⟨e, r'⟩
  · exact q.app (.cons ⟨rfl, r⟩ .nil)
end
/-- a key: an int or a text; a tuple of such -/
@[simp] def keyK : D → Option Key
  | .int i => some (.inl i)
  | .str x => some (.inr x)
  | _ => none
def keysK : List D → Option (List Key)
  | [] => some []
  | d :: ds => (keyK d).bind fun k => (keysK ds).map (k :: ·)
@[simp] def keyT : D → Option (List Key)
  | .tup ds => keysK ds
  | _ => none
theorem keyK_rep {H ρ v d k} (r : Rep H ρ v d) (h : keyK d = some k) : v = kV k := by
  cases d with
  | int i => cases r; cases h; rfl
  | str i => cases r; cases h; rfl
  | _ => cases h
theorem keysK_rep {H ρ} : ∀ {ds : List D} {vs : List V} {k}, Reps H ρ vs ds → keysK ds = some k → vs = k.map kV
  | [], _, _, .nil, h => by cases h; rfl
  | d :: ds, _, _, .cons r t, h => by
    simp only [keysK, Option.bind_eq_some_iff, Option.map_eq_some_iff] at h
    obtain ⟨k0, h0, ks, h1, rfl⟩ := h
    rw [keyK_rep r h0, keysK_rep t h1]
    rfl
theorem keyT_rep {H ρ v d k} (r : Rep H ρ v d) (h : keyT d = some k) : ∃ b, v = .ref b ∧ H b = some (.tup (k.map kV)) := by
  cases d with
  | tup ds =>
    cases r with
    | tup e q => rw [keysK_rep q h] at e; exact ⟨_, rfl, e⟩
  | _ => cases h
/-- what stands under a key; none where the key is no key -/
@[simp] def lookD : O → D → Option (Option D)
  | .dK kvs, y => (keyK y).map (valD kvs)
  | .fK kvs, y => (keyK y).map (valD kvs)
  | .dT kvs, y => (keyT y).map (valD kvs)
  | .fT kvs, y => (keyT y).map (valD kvs)
  | _, _ => none
@[simp] def isDO : O → Bool
  | .dK _ => true | .fK _ => true | .dT _ => true | .fT _ => true | _ => false
theorem lookD_get {ρ : List Addr} {S : Sto} {H : Hp} {a : Addr} {n : Nat} {y : V} {dy : D} {o : O} {r : Option D} (s : Sim ρ S H) (ha : ρ[n]? = some a) (hS : S[n]? = some o) (ry : Rep H ρ y dy) (h : lookD o dy = some r) :
    (∀ d, r = some d → ∃ v, DGet H a y (some v) ∧ Rep H ρ v d) ∧ (r = none → DGet H a y none) := by
  obtain ⟨b, eb, ro⟩ := s.at_ n o hS
  rw [ha] at eb; cases eb
  cases o with
  | dK kvs =>
    obtain ⟨ks, hk, q⟩ := ro
    simp only [lookD, Option.map_eq_some_iff] at h
    obtain ⟨k, h1, rfl⟩ := h
    obtain rfl := keyK_rep ry h1
    have z := q.val k
    exact ⟨fun d e => let ⟨v, e1, r1⟩ := z.1 d e; ⟨v, .inl ⟨ks, k, .inl hk, rfl, e1.symm⟩, r1⟩, fun e => .inl ⟨ks, k, .inl hk, rfl, (z.2 e).symm⟩⟩
  | fK kvs =>
    obtain ⟨od, ks, hk, q⟩ := ro
    simp only [lookD, Option.map_eq_some_iff] at h
    obtain ⟨k, h1, rfl⟩ := h
    obtain rfl := keyK_rep ry h1
    have z := q.val k
    exact ⟨fun d e => let ⟨v, e1, r1⟩ := z.1 d e; ⟨v, .inl ⟨ks, k, .inr ⟨od, hk⟩, rfl, e1.symm⟩, r1⟩, fun e => .inl ⟨ks, k, .inr ⟨od, hk⟩, rfl, (z.2 e).symm⟩⟩
  | dT kvs =>
    obtain ⟨ks, hk, q⟩ := ro
    simp only [lookD, Option.map_eq_some_iff] at h
    obtain ⟨k, h1, rfl⟩ := h
    obtain ⟨b, rfl, hb⟩ := keyT_rep ry h1
    have z := q.val k
    exact ⟨fun d e => let ⟨v, e1, r1⟩ := z.1 d e; ⟨v, .inr ⟨ks, k, b, .inl hk, rfl, hb, e1.symm⟩, r1⟩, fun e => .inr ⟨ks, k, b, .inl hk, rfl, hb, (z.2 e).symm⟩⟩
  | fT kvs =>
    obtain ⟨od, ks, hk, q⟩ := ro
    simp only [lookD, Option.map_eq_some_iff] at h
    obtain ⟨k, h1, rfl⟩ := h
    obtain ⟨b, rfl, hb⟩ := keyT_rep ry h1
    have z := q.val k
    exact ⟨fun d e => let ⟨v, e1, r1⟩ := z.1 d e; ⟨v, .inr ⟨ks, k, b, .inr ⟨od, hk⟩, rfl, hb, e1.symm⟩, r1⟩, fun e => .inr ⟨ks, k, b, .inr ⟨od, hk⟩, rfl, hb, (z.2 e).symm⟩⟩
  | _ => cases h
section
variable {X : Cx} {E : XK} {pos : Pos} {a b c : Expr} {ma mb mc : Me}
theorem pe_or {e : Expr} {t t' : TE} (h : PE X e t) (h' : PE X e t') : PE X e (fun σ H Q => t σ H Q ∨ t' σ H Q) := ⟨fun pins s σ H Q I hw => hw.elim (h.run pins s σ H Q I) (h'.run pins s σ H Q I)⟩
/-- two parts, their values told -/
theorem two_of {f : Fn2} {ρ S σd σ H Q} (s : Sim ρ S H) (r : SRep H ρ σ σd) (h : PostG Rep E ρ H Q (mOp f ma mb σd S)) {T : V → V → Hp → Prop}
    (go : ∀ S1 dx S2 dy, ma σd S = .ok dx S1 → mb σd S1 = .ok dy S2 → ∀ ρ2 H2 x y, Sim ρ2 S2 H2 → Rep H2 ρ2 x dx → Rep H2 ρ2 y dy → PostG Rep E ρ2 H2 Q (f dx dy S2) → T x y H2) :
    tF E ma σ H fun x H1 => tF E mb σ H1 fun y H2 => T x y H2 := by
  refine ⟨ρ, S, σd, s, r, ?_⟩
  have h : PostG Rep E ρ H Q ((ma σd S).bind (opK f mb σd)) := h
  revert h go
  generalize hm : ma σd S = m
  cases m with
  | bad => exact fun _ h => h
  | exc c fs S1 => exact fun _ h => h
  | ok dx S1 =>
    intro go h x ρ1 H1 e1 s1 q1
    refine ⟨ρ1, S1, σd, s1, r.ext s e1, ?_⟩
    have h : PostG Rep E ρ H Q ((mb σd S1).bind (f dx)) := h
    have h := PostG.weak h e1
    revert h
    generalize hm2 : mb σd S1 = m2
    cases m2 with
    | bad => exact fun h => h
    | exc c fs S2 => exact fun h => h
    | ok dy S2 => exact fun h y ρ2 H2 e2 s2 q2 => go S1 dx S2 dy rfl hm2 ρ2 H2 x y s2 (q1.ext s1 e2) q2 (PostG.weak h e2)
/-- is the receiver a dict -/
@[simp] def isD (S : Sto) : D → Bool
  | .loc n => match S[n]? with
    | some o => isDO o
    | none => false
  | _ => false
@[simp] def okO {α : Type} (S : Sto) : Option α → R α
  | some d => .ok d S
  | none => .bad
/-- x[y] -/
noncomputable def fSub_ : Fn2
  | .loc n, y, S => match S[n]? with
    | some (.lst ds) => match y with
      | .int i => okO S (atI ds i)
      | _ => .bad
    | some o => match lookD o y with
      | some r => okO S r
      | none => .bad
    | none => .bad
  | .tup ds, .int i, S => okO S (atI ds i)
  | .str x, .int i, S => if x.length ≤ sizeLine then (match atI x.cps.toList i with
    | some c => .ok (.str ⟨#[c]⟩) S
    | none => .bad) else .bad
  | _, _, _ => .bad
theorem fe_sub (hu : X.A.units + 1 < cLine) (ha : FE X E a ma) (hb : FE X E b mb) (hs : PlainIx b) : FE X E (.Subscript a b pos) (mOp fSub_ ma mb) := by
  refine pe_imp (pe_or (pe_ix (IxR.or ix_list (IxR.or ix_tup ix_str)) ha hb hs) (pe_dget hu ha hb hs)) fun σ H Q ⟨ρ, S, σd, s, r, h⟩ => ?_
  by_cases hd : ∃ S1 dx S2 dy, ma σd S = .ok dx S1 ∧ mb σd S1 = .ok dy S2 ∧ isD S2 dx = true
  · refine .inr (two_of s r h fun S1 dx S2 dy e1 e2 ρ2 H2 x y s2 rx ry h2 => ?_)
    obtain ⟨S1', dx', S2', dy', e1', e2', hD⟩ := hd
    rw [e1] at e1'; cases e1'
    rw [e2] at e2'; cases e2'
    cases dx with
    | loc n =>
      cases rx with
      | loc ea =>
        cases hS : S2[n]? with
        | none => simp only [isD, hS] at hD; cases hD
        | some o =>
          simp only [isD, hS] at hD
          have h3 : PostG Rep E ρ2 H2 Q (match lookD o dy with
            | some r => okO S2 r
            | none => .bad) := by
            cases o with
            | lst _ => cases hD
            | _ => simpa only [fSub_, hS] using h2
          cases hl : lookD o dy with
          | none => rw [hl] at h3; exact h3.elim
          | some r =>
            rw [hl] at h3
            cases r with
            | none => exact h3.elim
            | some d =>
              obtain ⟨v, g, rv⟩ := (lookD_get s2 ea hS ry hl).1 d rfl
              exact ⟨_, v, rfl, g, PostG.here h3 s2 rv⟩
    | _ => cases hD
  · refine .inl (two_of s r h fun S1 dx S2 dy e1 e2 ρ2 H2 x y s2 rx ry h2 => ?_)
    have hD : isD S2 dx = false := by
      cases q : isD S2 dx with
      | false => rfl
      | true => exact absurd ⟨S1, dx, S2, dy, e1, e2, q⟩ hd
    cases dx with
    | loc n =>
      cases rx with
      | loc ea =>
        cases hS : S2[n]? with
        | none => simp only [fSub_, hS] at h2; exact h2.elim
        | some o =>
          simp only [isD, hS] at hD
          cases o with
          | lst ds =>
            simp only [fSub_, hS] at h2
            cases dy with
            | int i =>
              simp only at h2
              cases hi : atI ds i with
              | none => rw [hi] at h2; exact h2.elim
              | some d =>
                rw [hi] at h2
                cases ry
                obtain ⟨a', ea', xs, hx, q⟩ := s2.at_ _ _ hS
                rw [ea] at ea'; cases ea'
                obtain ⟨v, hv, rv⟩ := atI_rep q hi
                exact .inl ⟨_, xs, _, v, rfl, rfl, .of hx, hv, PostG.here h2 s2 rv⟩
            | _ => exact h2.elim
          | ins _ _ => simp only [fSub_, hS, lookD] at h2; exact h2.elim
          | _ => cases hD
    | tup ds =>
      cases dy with
      | int i =>
        simp only [fSub_] at h2
        cases hi : atI ds i with
        | none => rw [hi] at h2; exact h2.elim
        | some d =>
          rw [hi] at h2
          cases ry
          cases rx with
          | tup hx q =>
            obtain ⟨v, hv, rv⟩ := atI_rep q hi
            exact .inr (.inl ⟨_, _, _, v, rfl, rfl, .of hx, hv, PostG.here h2 s2 rv⟩)
      | _ => exact h2.elim
    | str z =>
      cases dy with
      | int i =>
        simp only [fSub_] at h2
        split at h2
        · rename_i hz
          split at h2
          · rename_i hc
            cases rx; cases ry
            exact .inr (.inr ⟨_, _, _, rfl, rfl, hz, hc, PostG.here h2 s2 (.str _)⟩)
          · exact h2.elim
        · exact h2.elim
      | _ => exact h2.elim
    | _ => exact h2.elim
end
end FL
set_option Elab.async false
set_option linter.all false
set_option maxRecDepth 100000
set_option maxHeartbeats 4000000
/-! FLb: in, dict methods, displays, list methods, sums, slices, chains, ranges with a step, walked dicts. -/
namespace FL
open PySem PySem.Spec PyProof.Rows L2
section
variable {X : Cx} {E : XK} {pos : Pos} {a b c : Expr} {ma mb mc : Me}
/-! ### in -/
def flatD : D → Bool
  | .non => true | .bl _ => true | .int _ => true | .str _ => true | _ => false
def eqvD : D → D → Bool
  | .non, .non => true
  | .bl a, .bl b => a == b
  | .bl a, .int b => (if a then 1 else 0) == b
  | .int a, .bl b => a == (if b then 1 else 0)
  | .int a, .int b => a == b
  | .str a, .str b => a == b
  | _, _ => false
theorem flatD_rep {H ρ v d} (r : Rep H ρ v d) : flatD d = true → flatV v = true := by cases r <;> intro h <;> first | rfl | cases h
theorem flatsD_rep {H ρ} : ∀ {vs ds}, Reps H ρ vs ds → ds.all flatD = true → vs.all flatV = true
  | _, _, .nil, _ => rfl
  | _, _, .cons r t, h => by
    rw [List.all_cons, Bool.and_eq_true] at h ⊢
    exact ⟨flatD_rep r h.1, flatsD_rep t h.2⟩
theorem eqvD_rep {H ρ v d w e} (r : Rep H ρ v d) (q : Rep H ρ w e) (h : flatD d = true) (h' : flatD e = true) : eqV v w = eqvD d e := by
  cases r <;> cases q <;> first | rfl | cases h | cases h'
theorem inD_rep {H ρ v d} (r : Rep H ρ v d) (h : flatD d = true) : ∀ {vs ds}, Reps H ρ vs ds → ds.all flatD = true → inV v vs = ds.any fun e => eqvD e d
  | _, _, .nil, _ => rfl
  | _, _, .cons q t, h' => by
    rw [List.all_cons, Bool.and_eq_true] at h'
    have ih := inD_rep r h t h'.2
    simp only [inV] at ih ⊢
    rw [List.any_cons, List.any_cons, ih, eqvD_rep q r h'.1 h]
noncomputable def fInN (neg : Bool) : Fn2
  | y, .loc n, S => match S[n]? with
    | some (.lst ds) => if (flatD y && ds.all flatD) = true then .ok (.bl (neg ^^ ds.any fun e => eqvD e y)) S else .bad
    | some o => match lookD o y with
      | some r => .ok (.bl (neg ^^ r.isSome)) S
      | none => .bad
    | none => .bad
  | y, .tup ds, S => if (flatD y && ds.all flatD) = true then .ok (.bl (neg ^^ ds.any fun e => eqvD e y)) S else .bad
  | .str x, .str y, S => .ok (.bl (neg ^^ !(Builtin.Str.occurrences y x 0 y.length 1).isEmpty)) S
  | _, _, _ => .bad
noncomputable abbrev fIn : Fn2 := fInN false
noncomputable abbrev fNotIn : Fn2 := fInN true
theorem fIn_core {neg : Bool} {r0 : R2} (h1 : ∀ (x y : V) (H : Hp) (Q : VK), (rIn X.K neg x y H Q ∨ ∃ i j, x = .str i ∧ y = .str j ∧ Q (.bl (neg ^^ !(Builtin.Str.occurrences j i 0 j.length 1).isEmpty)) H) → r0 x y H Q)
    {σ H Q} (h : tF E (mOp (fInN neg) ma mb) σ H Q) :
    tOp r0 (tF E ma) (tF E mb) σ H Q ∨ (tF E ma σ H fun y H1 => tF E mb σ H1 fun x H2 => ∃ a o, x = .ref a ∧ DGet H2 a y o ∧ Q (.bl (neg ^^ o.isSome)) H2) := by
  obtain ⟨ρ, S, σd, s, r, h⟩ := h
  by_cases hd : ∃ S1 dx S2 dy, ma σd S = .ok dx S1 ∧ mb σd S1 = .ok dy S2 ∧ isD S2 dy = true
  · refine .inr (two_of s r h fun S1 dx S2 dy e1 e2 ρ2 H2 x y s2 rx ry h2 => ?_)
    obtain ⟨S1', dx', S2', dy', e1', e2', hD⟩ := hd
    rw [e1] at e1'; cases e1'
    rw [e2] at e2'; cases e2'
    cases dy with
    | loc n =>
      cases ry with
      | loc ea =>
        cases hS : S2[n]? with
        | none => simp only [isD, hS] at hD; cases hD
        | some o =>
          simp only [isD, hS] at hD
          have h3 : PostG Rep E ρ2 H2 Q (match lookD o dx with
            | some r => .ok (.bl (neg ^^ r.isSome)) S2
            | none => .bad) := by
            cases o with
            | lst _ => cases hD
            | _ => simpa only [fInN, hS] using h2
          cases hl : lookD o dx with
          | none => rw [hl] at h3; exact h3.elim
          | some r =>
            rw [hl] at h3
            have g := lookD_get s2 ea hS rx hl
            cases r with
            | none => exact ⟨_, none, rfl, g.2 rfl, PostG.here h3 s2 (.bl _)⟩
            | some d =>
              obtain ⟨v, g, rv⟩ := g.1 d rfl
              exact ⟨_, some v, rfl, g, PostG.here h3 s2 (.bl _)⟩
    | _ => cases hD
  · refine .inl (two_of s r h fun S1 dx S2 dy e1 e2 ρ2 H2 x y s2 rx ry h2 => h1 _ _ _ _ ?_)
    have hD : isD S2 dy = false := by
      cases q : isD S2 dy with
      | false => rfl
      | true => exact absurd ⟨S1, dx, S2, dy, e1, e2, q⟩ hd
    cases dy with
    | loc n =>
      cases ry with
      | loc ea =>
        cases hS : S2[n]? with
        | none => simp only [fInN, hS] at h2; exact h2.elim
        | some o =>
          simp only [isD, hS] at hD
          cases o with
          | lst ds =>
            simp only [fInN, hS] at h2
            split at h2
            · rename_i hf
              rw [Bool.and_eq_true] at hf
              obtain ⟨a', ea', xs, hx, q⟩ := s2.at_ _ _ hS
              rw [ea] at ea'; cases ea'
              refine .inl ⟨_, xs, rfl, .inl (.of hx), flatD_rep rx hf.1, flatsD_rep q hf.2, ?_⟩
              have := PostG.here h2 s2 (.bl _)
              rw [inD_rep rx hf.1 q hf.2]
              cases neg <;> simpa using this
            · exact h2.elim
          | ins _ _ => simp only [fInN, hS, lookD] at h2; exact h2.elim
          | _ => cases hD
    | tup ds =>
      cases ry with
      | tup hx q =>
        simp only [fInN] at h2
        split at h2
        · rename_i hf
          rw [Bool.and_eq_true] at hf
          refine .inl ⟨_, _, rfl, .inr (.of hx), flatD_rep rx hf.1, flatsD_rep q hf.2, ?_⟩
          have := PostG.here h2 s2 (.bl _)
          rw [inD_rep rx hf.1 q hf.2]
          cases neg <;> simpa using this
        · exact h2.elim
    | str z =>
      cases dx with
      | str w => cases rx; cases ry; exact .inr ⟨_, _, rfl, rfl, PostG.here h2 s2 (.bl _)⟩
      | _ => exact h2.elim
    | _ => cases dx <;> exact h2.elim
theorem fe_in (hu : X.A.units + 1 < cLine) (ha : FE X E a ma) (hb : FE X E b mb) (hm : behindInMarks .In b = false := by rfl) : FE X E (.Compare a [.In] [b] pos) (mOp fIn ma mb) := by
  refine pe_imp (pe_or (pe_cmpR (OpR.or op_in_seq op_in_str) ha hb hm) (pe_cmp (pc_din hu ha hb) hm)) fun σ H Q h => ?_
  refine (fIn_core (X := X) (r0 := fun x y H Q => _ ∨ _) (fun x y H Q h => ?_) h).imp id fun h => ?_
  · simpa using h
  · simpa [tDIn] using h
theorem fe_notIn (hu : X.A.units + 1 < cLine) (ha : FE X E a ma) (hb : FE X E b mb) (hm : behindInMarks .NotIn b = false := by rfl) : FE X E (.Compare a [.NotIn] [b] pos) (mOp fNotIn ma mb) := by
  refine pe_imp (pe_or (pe_cmpR (OpR.or op_notIn_seq op_notin_str) ha hb hm) (pe_cmp (pc_dnotin hu ha hb) hm)) fun σ H Q h => ?_
  refine (fIn_core (X := X) (r0 := fun x y H Q => _ ∨ _) (fun x y H Q h => ?_) h).imp id fun h => ?_
  · simpa using h
  · simpa [tDNotIn] using h
theorem pt_or {e : Expr} {t t' : TT} (h : PT X e t) (h' : PT X e t') : PT X e (fun σ H Q => t σ H Q ∨ t' σ H Q) := ⟨fun pins s σ H Q I hw => hw.elim (h.run pins s σ H Q I) (h'.run pins s σ H Q I)⟩
theorem ft_in (hu : X.A.units + 1 < cLine) (ha : FE X E a ma) (hb : FE X E b mb) (hm : behindInMarks .In b = false := by rfl) : FT X E (.Compare a [.In] [b] pos) (mTest (mOp fIn ma mb)) := by
  refine pt_imp (pt_or (pt_cmpR (OpR.or op_in_seq op_in_str) ha hb hm) (pt_cmp (pc_din hu ha hb) hm)) fun σ H Q h => ?_
  refine (fIn_core (X := X) (r0 := fun x y H Q => _ ∨ _) (fun x y H Q h => ?_) (tTest_of h)).imp id fun h => ?_
  · simpa using h
  · simpa [tDIn, tB] using h
theorem ft_notIn (hu : X.A.units + 1 < cLine) (ha : FE X E a ma) (hb : FE X E b mb) (hm : behindInMarks .NotIn b = false := by rfl) : FT X E (.Compare a [.NotIn] [b] pos) (mTest (mOp fNotIn ma mb)) := by
  refine pt_imp (pt_or (pt_cmpR (OpR.or op_notIn_seq op_notin_str) ha hb hm) (pt_cmp (pc_dnotin hu ha hb) hm)) fun σ H Q h => ?_
  refine (fIn_core (X := X) (r0 := fun x y H Q => _ ∨ _) (fun x y H Q h => ?_) (tTest_of h)).imp id fun h => ?_
  · simpa using h
  · simpa [tDNotIn, tB] using h
end
/-! ### displays of dicts -/
section
variable {X : Cx} {E : XK} {pos : Pos} {a b c : Expr} {ma mb mc : Me}
@[simp] def mDnewK (_ : Sd) (S : Sto) : R D := .ok (.loc S.length) (S ++ [.dK []])
@[simp] def mDnewT (_ : Sd) (S : Sto) : R D := .ok (.loc S.length) (S ++ [.dT []])
theorem fe_dnewK : FE X E (.Dict [] [] pos) mDnewK := pe_imp pe_dnewK fun σ H Q ⟨ρ, S, σd, s, r, h⟩ => new_obj (o := .dK []) s (fun p hp => ⟨[], upd_same, .nil⟩) h
theorem fe_dnewT : FE X E (.Dict [] [] pos) mDnewT := pe_imp pe_dnewT fun σ H Q ⟨ρ, S, σd, s, r, h⟩ => new_obj (o := .dT []) s (fun p hp => ⟨[], upd_same, .nil⟩) h
/-! ### stores under a key, at a place -/
@[simp] noncomputable def fSet_ (o i v : D) (S : Sto) : Option Sto := match o with
  | .loc n => match S[n]? with
    | some (.lst ds) => match i with
      | .int k => match ixN ds.length k with
        | some j => some (S.set n (.lst (ds.set j v)))
        | none => none
      | _ => none
    | some (.dK kvs) => match keyK i with
      | some k => if kvs.length < sizeLine then some (S.set n (.dK (putD kvs k v))) else none
      | none => none
    | some (.dT kvs) => match keyT i with
      | some k => if kvs.length < sizeLine then some (S.set n (.dT (putD kvs k v))) else none
      | none => none
    | _ => none
  | _ => none
def rSetD : V → V → V → Hp → (Hp → Prop) → Prop := fun o i v H Q => ∃ a H', o = .ref a ∧ DPut H a i v H' ∧ Q H'
theorem set_dict (hu : X.A.units + 1 < cLine) : PSet X rSetD := by
  intro pins s σ H o i v ov iv u Q I ro ri rv h
  obtain ⟨a, H', rfl, g, q⟩ := h
  cases ro
  exact d_setItem hu I g ri rv fun s' I' => ⟨H', I', q⟩
theorem PSet.or {t t' : TSet} (h : PSet X t) (h' : PSet X t') : PSet X (fun o i v H Q => t o i v H Q ∨ t' o i v H Q) := fun pins s σ H o i v ov iv u Q I ro ri rv q =>
  q.elim (h pins s σ H o i v ov iv u Q I ro ri rv) (h' pins s σ H o i v ov iv u Q I ro ri rv)
theorem tup_upd {H : Hp} {a : Addr} {u w : HO} (hw : H a = some w) (hn : ∀ xs, w ≠ .tup xs) : ∀ b ys, H b = some (.tup ys) → (upd H a u) b = some (.tup ys) := fun b ys hb => by
  rw [upd_ne (fun z => by rw [z, hw] at hb; cases hb; exact hn _ rfl)]; exact hb
theorem setF (hu : X.A.units + 1 < cLine) : SetF X fSet_ := by
  refine ⟨_, PSet.or set_list (set_dict hu), fun ρ S H o i v do_ di dv S' Q s ro ri rv h k => ?_⟩
  cases do_ with
  | loc n =>
    cases ro with
    | loc ea =>
      simp only [fSet_] at h
      split at h
      · rename_i ds hS
        split at h
        · rename_i kk
          split at h
          · rename_i hj
            cases h
            cases ri
            obtain ⟨a, ea', xs, hx, q⟩ := s.at_ _ _ hS
            rw [ea] at ea'; cases ea'
            obtain ⟨e1, s1⟩ := s.set (o := .lst (_ : List D)) ea hx rfl ⟨_, upd_same, (q.set rv _).mono (List.prefix_refl _) (tup_upd hx fun _ z => nomatch z)⟩
            exact .inl ⟨_, xs, _, _, rfl, rfl, hx, by rw [q.length]; exact hj, k _ e1 s1⟩
          · cases h
        · cases h
      · rename_i kvs hS
        split at h
        · rename_i ky hk
          split at h
          · rename_i hz
            cases h
            obtain ⟨a, ea', ks, hx, q⟩ := s.at_ _ _ hS
            rw [ea] at ea'; cases ea'
            obtain rfl := keyK_rep ri hk
            obtain ⟨e1, s1⟩ := s.set (o := .dK (putD kvs ky dv)) ea hx rfl ⟨_, upd_same, (q.put ky rv).mono (List.prefix_refl _) (tup_upd hx fun _ z => nomatch z)⟩
            exact .inr ⟨_, _, rfl, .inl ⟨ks, ky, hx, rfl, by rw [q.len]; exact hz, rfl⟩, k _ e1 s1⟩
          · cases h
        · cases h
      · rename_i kvs hS
        split at h
        · rename_i ky hk
          split at h
          · rename_i hz
            cases h
            obtain ⟨a, ea', ks, hx, q⟩ := s.at_ _ _ hS
            rw [ea] at ea'; cases ea'
            obtain ⟨b, rfl, hb⟩ := keyT_rep ri hk
            obtain ⟨e1, s1⟩ := s.set (o := .dT (putD kvs ky dv)) ea hx rfl ⟨_, upd_same, (q.put ky rv).mono (List.prefix_refl _) (tup_upd hx fun _ z => nomatch z)⟩
            exact .inr ⟨_, _, rfl, .inr ⟨ks, ky, b, hx, rfl, hb, by rw [q.len]; exact hz, rfl⟩, k _ e1 s1⟩
          · cases h
        · cases h
      · cases h
  | _ => cases h
/-! ### d.get(k, x), d.get(k) -/
@[simp] def getK2 (o : O) (y z : D) (S : Sto) : R D := match lookD o y with
  | some r => .ok (r.getD z) S
  | none => .bad
@[simp] def getK (n : Nat) (mc : Me) (σ : Sd) (y : D) (S : Sto) : R D := (mc σ S).bind fun z S2 => match S2[n]? with
  | some o => if isDO o = true then getK2 o y z S2 else .bad
  | none => .bad
@[simp] def getK0 (mb mc : Me) (σ : Sd) (x : D) (S : Sto) : R D := match x with
  | .loc n => match S[n]? with
    | some o => if isDO o = true then (mb σ S).bind (getK n mc σ) else .bad
    | none => .bad
  | _ => .bad
@[simp] def mDget (ma mb mc : Me) (σ : Sd) (S : Sto) : R D := (ma σ S).bind (getK0 mb mc σ)
theorem isDO_is {ρ : List Addr} {S : Sto} {H : Hp} {a : Addr} {n : Nat} {o : O} (s : Sim ρ S H) (ha : ρ[n]? = some a) (hS : S[n]? = some o) (h : isDO o = true) : IsD H a := by
  obtain ⟨b, eb, ro⟩ := s.at_ n o hS
  rw [ha] at eb; cases eb
  cases o with
  | dK kvs => obtain ⟨ks, hk, q⟩ := ro; exact .inl ⟨ks, .inl hk⟩
  | fK kvs => obtain ⟨od, ks, hk, q⟩ := ro; exact .inl ⟨ks, .inr ⟨od, hk⟩⟩
  | dT kvs => obtain ⟨ks, hk, q⟩ := ro; exact .inr ⟨ks, .inl hk⟩
  | fT kvs => obtain ⟨od, ks, hk, q⟩ := ro; exact .inr ⟨ks, .inr ⟨od, hk⟩⟩
  | _ => cases h
theorem fe_dget {o e f : Expr} {apos cpos : Pos} (hu : X.A.units + 1 < cLine) (ho : FE X E o ma) (he : FE X E e mb) (hf : FE X E f mc) (m : M2 X o "get" apos e f cpos := by exact ⟨rfl, rfl, rfl, rfl⟩) :
    FE X E (.Call (.Attribute o "get" apos) [e, f] [] cpos) (mDget ma mb mc) := by
  refine pe_imp (pe_dget2 hu ho he hf m) fun σ H Q ⟨ρ, S, σd, s, r, h⟩ => ⟨ρ, S, σd, s, r, (PostG.bind (rel := Rep) h).mono fun x H1 ⟨ρ1, S1, dx, e1, s1, q1, h1⟩ => ?_⟩
  cases dx with
  | loc n =>
    cases q1 with
    | loc ea =>
      simp only [getK0] at h1
      split at h1
      · rename_i o1 hS
        split at h1
        · rename_i hD
          refine ⟨_, rfl, isDO_is s1 ea hS hD, ρ1, S1, σd, s1, r.ext s e1, (PostG.bind (rel := Rep) h1).mono fun y H2 ⟨ρ2, S2, dy, e2, s2, q2, h2⟩ => ?_⟩
          refine ⟨ρ2, S2, σd, s2, (r.ext s e1).ext s1 e2, (PostG.bind (rel := Rep) h2).mono fun z H3 ⟨ρ3, S3, dz, e3, s3, q3, h3⟩ => ?_⟩
          have ea3 := prefix_get e3.pre (prefix_get e2.pre ea)
          split at h3
          · rename_i o3 hS3
            split at h3
            · simp only [getK2] at h3
              split at h3
              · rename_i rr hl
                have g := lookD_get s3 ea3 hS3 (q2.ext s2 e3) hl
                cases rr with
                | none => exact ⟨none, g.2 rfl, PostG.here h3 s3 q3⟩
                | some d =>
                  obtain ⟨v, g, rv⟩ := g.1 d rfl
                  exact ⟨some v, g, PostG.here h3 s3 rv⟩
              · exact h3.elim
            · exact h3.elim
          · exact h3.elim
        · exact h1.elim
      · exact h1.elim
  | _ => exact h1.elim
end
end FL
set_option Elab.async false
set_option linter.all false
set_option maxRecDepth 100000
set_option maxHeartbeats 4000000
/-! FLc: o[i] op= v for dicts, methods of lists, tuple, list, sums, slices, chains, ranges with a step, walked dicts. -/
namespace FL
open PySem PySem.Spec PyProof.Rows L2
section
variable {X : Cx} {E : XK} {pos : Pos} {a b c : Expr} {ma mb mc : Me}
/-! ### o[i] op= v -/
noncomputable def fGet_ : Fn2
  | .loc n, y, S => match S[n]? with
    | some (.lst ds) => match y with
      | .int i => okO S (atI ds i)
      | _ => .bad
    | some o => match lookD o y with
      | some r => okO S r
      | none => .bad
    | none => .bad
  | _, _, _ => .bad
def rGetD : V → V → Hp → VK → Prop := fun x y H Q => ∃ a v, x = .ref a ∧ DGet H a y (some v) ∧ Q v H
theorem get_dict (hu : X.A.units + 1 < cLine) : PGet X rGetD := by
  intro pins s σ H o i ov iv Q I ro ri h
  obtain ⟨a, v, rfl, g, q⟩ := h
  cases ro
  exact d_getItem hu I g ri fun w' s' I' r => ⟨v, H, I', r, q⟩
theorem PGet.or {t t' : V → V → Hp → VK → Prop} (h : PGet X t) (h' : PGet X t') : PGet X (fun x y H Q => t x y H Q ∨ t' x y H Q) := fun pins s σ H o i ov iv Q I ro ri q =>
  q.elim (h pins s σ H o i ov iv Q I ro ri) (h' pins s σ H o i ov iv Q I ro ri)
theorem getF (hu : X.A.units + 1 < cLine) : GetF X E fGet_ := by
  refine ⟨_, PGet.or get_list (get_dict hu), fun ρ S H x y dx dy Q s rx ry h => ?_⟩
  cases dx with
  | loc n =>
    cases rx with
    | loc ea =>
      cases hS : S[n]? with
      | none => simp only [fGet_, hS] at h; exact h.elim
      | some o =>
        cases o with
        | lst ds =>
          simp only [fGet_, hS] at h
          cases dy with
          | int i =>
            simp only at h
            cases hi : atI ds i with
            | none => rw [hi] at h; exact h.elim
            | some d =>
              rw [hi] at h
              cases ry
              obtain ⟨a', ea', xs, hx, q⟩ := s.at_ _ _ hS
              rw [ea] at ea'; cases ea'
              obtain ⟨v, hv, rv⟩ := atI_rep q hi
              exact .inl ⟨_, xs, _, v, rfl, rfl, .of hx, hv, PostG.here h s rv⟩
          | _ => exact h.elim
        | ins _ _ => simp only [fGet_, hS, lookD] at h; exact h.elim
        | _ =>
          simp only [fGet_, hS] at h
          split at h
          · rename_i r hl
            cases r with
            | none => exact h.elim
            | some d =>
              obtain ⟨v, g, rv⟩ := (lookD_get s ea hS ry hl).1 d rfl
              exact .inr ⟨_, v, rfl, g, PostG.here h s rv⟩
          · exact h.elim
  | _ => exact h.elim
/-! ### methods of lists -/
theorem setL {ρ : List Addr} {S : Sto} {H : Hp} {n : Nat} {a : Addr} {xs ys : List V} {ds : List D} (s : Sim ρ S H) (ea : ρ[n]? = some a) (hx : H a = some (.lst xs)) (q : Reps H ρ ys ds) :
    Ext ρ H ρ (upd H a (.lst ys)) ∧ Sim ρ (S.set n (.lst ds)) (upd H a (.lst ys)) :=
  s.set (o := .lst ds) ea hx rfl ⟨_, upd_same, q.mono (List.prefix_refl _) (tup_upd hx fun _ z => nomatch z)⟩
theorem Sim.lst {ρ : List Addr} {S : Sto} {H : Hp} {n : Nat} {a : Addr} {ds : List D} (s : Sim ρ S H) (ea : ρ[n]? = some a) (hS : S[n]? = some (.lst ds)) : ∃ xs, H a = some (.lst xs) ∧ Reps H ρ xs ds := by
  obtain ⟨a', ea', xs, hx, q⟩ := s.at_ _ _ hS
  rw [ea] at ea'; cases ea'
  exact ⟨xs, hx, q⟩
theorem Reps.take {H ρ} : ∀ {vs ds} (i : Nat), Reps H ρ vs ds → Reps H ρ (vs.take i) (ds.take i)
  | _, _, _, .nil => by rw [List.take_nil, List.take_nil]; exact .nil
  | _, _, 0, .cons _ _ => .nil
  | _, _, i + 1, .cons r t => .cons r (Reps.take i t)
theorem Reps.drop {H ρ} : ∀ {vs ds} (i : Nat), Reps H ρ vs ds → Reps H ρ (vs.drop i) (ds.drop i)
  | _, _, _, .nil => by rw [List.drop_nil, List.drop_nil]; exact .nil
  | _, _, 0, .cons r t => .cons r t
  | _, _, i + 1, .cons r t => Reps.drop i t
theorem Reps.dropLast {H ρ} : ∀ {vs ds}, Reps H ρ vs ds → Reps H ρ vs.dropLast ds.dropLast
  | _, _, .nil => .nil
  | _, _, .cons r .nil => .nil
  | _, _, .cons r (.cons q t) => .cons r (Reps.dropLast (.cons q t))
theorem Reps.eraseIdx {H ρ} : ∀ {vs ds} (i : Nat), Reps H ρ vs ds → Reps H ρ (vs.eraseIdx i) (ds.eraseIdx i)
  | _, _, _, .nil => .nil
  | _, _, 0, .cons _ t => t
  | _, _, i + 1, .cons r t => .cons r (Reps.eraseIdx i t)
theorem Reps.reverse {H ρ} : ∀ {vs ds}, Reps H ρ vs ds → Reps H ρ vs.reverse ds.reverse
  | _, _, .nil => .nil
  | _, _, .cons r t => by rw [List.reverse_cons, List.reverse_cons]; exact (Reps.reverse t).append (.cons r .nil)
abbrev FnM := D → List D → Sto → R D
@[simp] noncomputable def fApp : FnM
  | .loc n, [y], S => match S[n]? with
    | some (.lst xs) => if xs.length < sizeLine then .ok .non (S.set n (.lst (xs ++ [y]))) else .bad
    | _ => .bad
  | _, _, _ => .bad
theorem mt_appF : MtF X E "list.append" fApp := by
  refine ⟨_, MtM.mtr mt_append, fun ρ S H x xs dx ds Q s rx q h => ?_⟩
  unfold fApp at h
  split at h
  · split at h
    · rename_i hS
      split at h
      · rename_i hz
        cases rx with
        | loc ea =>
          obtain ⟨v, rfl, r⟩ := reps1 q
          obtain ⟨ys, hx, qy⟩ := s.lst ea hS
          obtain ⟨e1, s1⟩ := setL s ea hx (qy.snoc r)
          exact ⟨_, ys, v, rfl, rfl, hx, by rw [qy.length]; exact hz, h _ ρ _ e1 s1 .non⟩
      · exact h.elim
    · exact h.elim
  · exact h.elim
@[simp] noncomputable def fExt : FnM
  | .loc n, [.loc m], S => match S[n]? with
    | some (.lst xs) => match S[m]? with
      | some (.lst zs) => if xs.length + zs.length ≤ sizeLine then .ok .non (S.set n (.lst (xs ++ zs))) else .bad
      | _ => .bad
    | _ => .bad
  | _, _, _ => .bad
theorem mt_extF : MtF X E "list.extend" fExt := by
  refine ⟨_, MtM.mtr mt_extend, fun ρ S H x xs dx ds Q s rx q h => ?_⟩
  unfold fExt at h
  split at h
  · split at h
    · rename_i hS
      split at h
      · rename_i hM
        split at h
        · rename_i hz
          cases rx with
          | loc ea =>
            obtain ⟨v, rfl, r⟩ := reps1 q
            cases r with
            | loc eb =>
              obtain ⟨ys, hx, qy⟩ := s.lst ea hS
              obtain ⟨zs, hz', qz⟩ := s.lst eb hM
              obtain ⟨e1, s1⟩ := setL s ea hx (qy.append qz)
              exact ⟨_, _, ys, zs, rfl, rfl, hx, hz', by rw [qy.length, qz.length]; exact hz, h _ ρ _ e1 s1 .non⟩
        · exact h.elim
      · exact h.elim
    · exact h.elim
  · exact h.elim
@[simp] noncomputable def fPop : FnM
  | .loc n, [], S => match S[n]? with
    | some (.lst xs) => match xs[xs.length - 1]? with
      | some y => .ok y (S.set n (.lst xs.dropLast))
      | none => .bad
    | _ => .bad
  | .loc n, [.int i], S => match S[n]? with
    | some (.lst xs) => if -(2 ^ 63) ≤ i ∧ i < 2 ^ 63 then (match seqIndex? i xs.length with
      | some k => match xs[k]? with
        | some y => .ok y (S.set n (.lst (xs.eraseIdx k)))
        | none => .bad
      | none => .bad) else .bad
    | _ => .bad
  | _, _, _ => .bad
theorem MtR.or {id : String} {r r' : V → List V → Hp → VK → Prop} (h : MtR X id r) (h' : MtR X id r') : MtR X id (fun x xs H Q => r x xs H Q ∨ r' x xs H Q) := fun pins s σ H x xs v us Q I rx rv q =>
  q.elim (h pins s σ H x xs v us Q I rx rv) (h' pins s σ H x xs v us Q I rx rv)
theorem mt_popF : MtF X E "list.pop" fPop := by
  refine ⟨_, MtR.or (MtM.mtr mt_pop) (MtM.mtr mt_popAt), fun ρ S H x xs dx ds Q s rx q h => ?_⟩
  unfold fPop at h
  split at h
  · split at h
    · rename_i hS
      split at h
      · rename_i y hy
        cases rx with
        | loc ea =>
          cases q
          obtain ⟨ys, hx, qy⟩ := s.lst ea hS
          obtain ⟨v, hv, rv⟩ := qy.get hy
          obtain ⟨e1, s1⟩ := setL s ea hx qy.dropLast
          exact .inl ⟨_, ys, v, rfl, rfl, hx, by rw [qy.length]; exact hv, h _ ρ _ e1 s1 (rv.ext s e1)⟩
      · exact h.elim
    · exact h.elim
  · split at h
    · rename_i hS
      split at h
      · rename_i hi
        split at h
        · rename_i k hk
          split at h
          · rename_i y hy
            cases rx with
            | loc ea =>
              obtain ⟨w, rfl, r⟩ := reps1 q
              cases r
              obtain ⟨ys, hx, qy⟩ := s.lst ea hS
              obtain ⟨v, hv, rv⟩ := qy.get hy
              obtain ⟨e1, s1⟩ := setL s ea hx (qy.eraseIdx k)
              exact .inr ⟨_, ys, _, k, v, rfl, rfl, hx, hi.1, hi.2, by rw [qy.length]; exact hk, hv, h _ ρ _ e1 s1 (rv.ext s e1)⟩
          · exact h.elim
        · exact h.elim
      · exact h.elim
    · exact h.elim
  · exact h.elim
@[simp] noncomputable def fIns : FnM
  | .loc n, [.int i, y], S => match S[n]? with
    | some (.lst xs) => if xs.length < sizeLine ∧ 0 ≤ i ∧ i < 2 ^ 63 then .ok .non (S.set n (.lst (xs.take i.toNat ++ [y] ++ xs.drop i.toNat))) else .bad
    | _ => .bad
  | _, _, _ => .bad
theorem mt_insF : MtF X E "list.insert" fIns := by
  refine ⟨_, mt_insert, fun ρ S H x xs dx ds Q s rx q h => ?_⟩
  unfold fIns at h
  split at h
  · split at h
    · rename_i hS
      split at h
      · rename_i hz
        cases rx with
        | loc ea =>
          obtain ⟨v, w, rfl, r, r'⟩ := reps2 q
          cases r
          obtain ⟨ys, hx, qy⟩ := s.lst ea hS
          obtain ⟨e1, s1⟩ := setL s ea hx (((qy.take _).append (.cons r' .nil)).append (qy.drop _))
          exact ⟨_, ys, _, w, rfl, rfl, hx, by rw [qy.length]; exact hz.1, hz.2.1, hz.2.2, h _ ρ _ e1 s1 .non⟩
      · exact h.elim
    · exact h.elim
  · exact h.elim
/-! ### tuple(x), list(x) -/
def fTupOf : FnL
  | [.loc n], S => match S[n]? with
    | some (.lst ds) => .ok (.tup ds) S
    | _ => .bad
  | [.tup ds], S => .ok (.tup ds) S
  | _, _ => .bad
theorem call_tupF : CallF X E (.type "tuple") fTupOf := by
  refine ⟨_, call_tuple_of, fun ρ S H xs ds Q s q h => ?_⟩
  unfold fTupOf at h
  split at h
  · split at h
    · rename_i hS
      obtain ⟨v, rfl, r⟩ := reps1 q
      cases r with
      | loc ea =>
        obtain ⟨ys, hx, qy⟩ := s.lst ea hS
        exact ⟨_, ys, rfl, .inl ⟨.of hx, new_tup s qy h⟩⟩
    · exact h.elim
  · obtain ⟨v, rfl, r⟩ := reps1 q
    cases r with
    | tup hx q => exact ⟨_, _, rfl, .inr ⟨.of hx, PostG.here h s (.tup hx q)⟩⟩
  · exact h.elim
theorem Reps.keys {H ρ} {κ : Type} {f : κ → V} {g : κ → D} (hr : ∀ k, Rep H ρ (f k) (g k)) : ∀ {gs : List (κ × V)} {fs : List (κ × D)}, RepF H ρ gs fs → Reps H ρ (gs.map fun p => f p.1) (fs.map fun p => g p.1)
  | _, _, .nil => .nil
  | _, _, .cons (a := a) (b := b) ⟨e, r⟩ t => .cons (by show Rep H ρ (f a.1) (g b.1); rw [e]; exact hr _) (Reps.keys hr t)
noncomputable def fLstOf : FnL
  | [.loc n], S => match S[n]? with
    | some (.lst ds) => .ok (.loc S.length) (S ++ [.lst ds])
    | some (.dK kvs) => .ok (.loc S.length) (S ++ [.lst (kvs.map fun p => keyD p.1)])
    | _ => .bad
  | [.tup ds], S => .ok (.loc S.length) (S ++ [.lst ds])
  | _, _ => .bad
theorem call_lstF (hc : X.calm = true) : CallF X E (.type "list") fLstOf := by
  refine ⟨_, CallR.or call_list_of (call_list_dK hc), fun ρ S H xs ds Q s q h => ?_⟩
  unfold fLstOf at h
  split at h
  · split at h
    · rename_i hS
      obtain ⟨v, rfl, r⟩ := reps1 q
      cases r with
      | loc ea =>
        obtain ⟨ys, hx, qy⟩ := s.lst ea hS
        exact .inl ⟨_, ys, rfl, .inl (.of hx), new_lst s qy h⟩
    · rename_i hS
      obtain ⟨v, rfl, r⟩ := reps1 q
      cases r with
      | loc ea =>
        obtain ⟨a', ea', ks, hx, qy⟩ := s.at_ _ _ hS
        rw [ea] at ea'; cases ea'
        exact .inr ⟨_, ks, rfl, hx, new_lst s (Reps.keys (f := kV) (g := keyD) (fun k => keyD_rep k) qy) h⟩
    · exact h.elim
  · obtain ⟨v, rfl, r⟩ := reps1 q
    cases r with
    | tup hx q => exact .inl ⟨_, _, rfl, .inr (.of hx), new_lst s q h⟩
  · exact h.elim
/-! ### sum, all, any -/
@[simp] def intsD : List D → Option (List Int)
  | [] => some []
  | .int i :: r => (intsD r).map (i :: ·)
  | _ => none
@[simp] def blsD : List D → Option (List Bool)
  | [] => some []
  | .bl i :: r => (blsD r).map (i :: ·)
  | _ => none
theorem intsD_rep {H ρ} : ∀ {ds vs ns}, Reps H ρ vs ds → intsD ds = some ns → vs = ns.map V.int
  | [], _, _, .nil, h => by cases h; rfl
  | .int i :: r, _, _, .cons (.int _) t, h => by
    simp only [intsD, Option.map_eq_some_iff] at h
    obtain ⟨ns, h, rfl⟩ := h
    rw [intsD_rep t h]; rfl
theorem blsD_rep {H ρ} : ∀ {ds vs ns}, Reps H ρ vs ds → blsD ds = some ns → vs = ns.map V.bl
  | [], _, _, .nil, h => by cases h; rfl
  | .bl i :: r, _, _, .cons (.bl _) t, h => by
    simp only [blsD, Option.map_eq_some_iff] at h
    obtain ⟨ns, h, rfl⟩ := h
    rw [blsD_rep t h]; rfl
theorem intsD_map : ∀ ns : List Int, intsD (ns.map D.int) = some ns
  | [] => rfl
  | n :: r => by rw [List.map_cons, intsD, intsD_map r]; rfl
theorem blsD_map : ∀ ns : List Bool, blsD (ns.map D.bl) = some ns
  | [] => rfl
  | n :: r => by rw [List.map_cons, blsD, blsD_map r]; rfl
@[simp] def fSum : FnL
  | [.loc n], S => match S[n]? with
    | some (.lst ds) => match intsD ds with
      | some ns => .ok (.int ns.sum) S
      | none => .bad
    | _ => .bad
  | _, _ => .bad
@[simp] def fAll : FnL
  | [.loc n], S => match S[n]? with
    | some (.lst ds) => match blsD ds with
      | some ns => .ok (.bl (ns.all id)) S
      | none => .bad
    | _ => .bad
  | _, _ => .bad
@[simp] def fAny : FnL
  | [.loc n], S => match S[n]? with
    | some (.lst ds) => match blsD ds with
      | some ns => .ok (.bl (ns.any id)) S
      | none => .bad
    | _ => .bad
  | _, _ => .bad
theorem call_sumF (hc : X.calm = true) : CallF X E (.builtin "sum") fSum := by
  refine ⟨_, cr_sum hc, fun ρ S H xs ds Q s q h => ?_⟩
  unfold fSum at h
  split at h
  · split at h
    · rename_i hS
      split at h
      · rename_i hn
        obtain ⟨v, rfl, r⟩ := reps1 q
        cases r with
        | loc ea =>
          obtain ⟨ys, hx, qy⟩ := s.lst ea hS
          exact ⟨_, _, rfl, by rw [← intsD_rep qy hn]; exact .of hx, PostG.here h s (.int _)⟩
      · exact h.elim
    · exact h.elim
  · exact h.elim
theorem call_allF (hc : X.calm = true) : CallF X E (.builtin "all") fAll := by
  refine ⟨_, cr_all hc, fun ρ S H xs ds Q s q h => ?_⟩
  unfold fAll at h
  split at h
  · split at h
    · rename_i hS
      split at h
      · rename_i hn
        obtain ⟨v, rfl, r⟩ := reps1 q
        cases r with
        | loc ea =>
          obtain ⟨ys, hx, qy⟩ := s.lst ea hS
          exact ⟨_, _, rfl, by rw [← blsD_rep qy hn]; exact .of hx, PostG.here h s (.bl _)⟩
      · exact h.elim
    · exact h.elim
  · exact h.elim
theorem call_anyF (hc : X.calm = true) : CallF X E (.builtin "any") fAny := by
  refine ⟨_, cr_any hc, fun ρ S H xs ds Q s q h => ?_⟩
  unfold fAny at h
  split at h
  · split at h
    · rename_i hS
      split at h
      · rename_i hn
        obtain ⟨v, rfl, r⟩ := reps1 q
        cases r with
        | loc ea =>
          obtain ⟨ys, hx, qy⟩ := s.lst ea hS
          exact ⟨_, _, rfl, by rw [← blsD_rep qy hn]; exact .of hx, PostG.here h s (.bl _)⟩
      · exact h.elim
    · exact h.elim
  · exact h.elim
/-! ### slices -/
abbrev Mp := Sd → Sto → R (Option Int)
abbrev relP : Hp → List Addr → Option Int → Option Int → Prop := fun _ _ b c => b = c
abbrev FP (X : Cx) (E : XK) (e : Option Expr) (m : Mp) : Prop := PO X e (tG relP E m)
@[simp] def mNoP (_ : Sd) (S : Sto) : R (Option Int) := .ok none S
@[simp] def asP : D → Sto → R (Option Int)
  | .int i, S => .ok (some i) S
  | _, _ => .bad
@[simp] def mP (m : Me) (σ : Sd) (S : Sto) : R (Option Int) := (m σ S).bind asP
theorem po_imp {e : Option Expr} {t t' : TO} (h : PO X e t) (i : ∀ σ H Q, t' σ H Q → t σ H Q) : PO X e t' := ⟨fun pins s σ H Q I hw => h.run pins s σ H Q I (i _ _ _ hw)⟩
theorem fp_none : FP X E none mNoP := po_imp po_none fun σ H Q ⟨ρ, S, σd, s, r, h⟩ => h.here s rfl
theorem fp_some {e : Expr} (h : FE X E e ma) : FP X E (some e) (mP ma) := po_imp (po_some h) fun σ H Q ⟨ρ, S, σd, s, r, h⟩ => ⟨ρ, S, σd, s, r, (PostG.bind (rel := Rep) h).mono fun x H1 ⟨ρ1, S1, dx, e1, s1, q1, h1⟩ => by
  cases dx with
  | int i => cases q1; exact ⟨i, rfl, h1.here s1 rfl⟩
  | _ => exact h1.elim⟩
def cutD {α : Type} (xs : List α) (lo hi : Option Int) : List α := (xs.drop (HT.sIx xs.length 0 lo)).take (HT.sIx xs.length xs.length hi - HT.sIx xs.length 0 lo)
theorem cut_reps {H ρ vs ds} (q : Reps H ρ vs ds) (lo hi) : Reps H ρ (cutV vs lo hi) (cutD ds lo hi) := by
  unfold cutV cutD
  rw [q.length]
  exact (q.drop _).take _
theorem cutD_all {α β : Type} {xs : List β} {ds : List α} {l u : Option Int} (q : xs.length = ds.length) (hw : HT.sIx xs.length 0 l = 0 ∧ HT.sIx xs.length xs.length u = xs.length) : cutD ds l u = ds := by
  unfold cutD
  rw [← q, hw.1, hw.2, List.drop_zero, Nat.sub_zero, q, List.take_length]
noncomputable def fSl : D → Option Int → Option Int → Sto → R D
  | .loc n, lo, hi, S => match S[n]? with
    | some (.lst ds) => .ok (.loc S.length) (S ++ [.lst (cutD ds lo hi)])
    | _ => .bad
  | .tup ds, lo, hi, S => .ok (.tup (cutD ds lo hi)) S
  | .str x, lo, hi, S => if x.length ≤ sizeLine then .ok (.str (cutS x lo hi)) S else .bad
  | _, _, _, _ => .bad
@[simp] noncomputable def slK2 (x : D) (lo : Option Int) (hi : Option Int) (S : Sto) : R D := fSl x lo hi S
@[simp] noncomputable def slK1 (mh : Mp) (σ : Sd) (x : D) (lo : Option Int) (S : Sto) : R D := (mh σ S).bind (slK2 x lo)
@[simp] noncomputable def slK (ml mh : Mp) (σ : Sd) (x : D) (S : Sto) : R D := (ml σ S).bind (slK1 mh σ x)
@[simp] noncomputable def mSl (me : Me) (ml mh : Mp) (σ : Sd) (S : Sto) : R D := (me σ S).bind (slK ml mh σ)
theorem fe_slice {e : Expr} {lo hi : Option Expr} {ml mh : Mp} {p2 : Pos} (he : FE X E e ma) (hl : FP X E lo ml) (hh : FP X E hi mh) : FE X E (.Subscript e (.Slice lo hi none p2) pos) (mSl ma ml mh) := by
  refine pe_imp (pe_slice (SlR.or sl_list (SlR.or sl_tupA sl_str)) he hl hh) fun σ H Q ⟨ρ, S, σd, s, r, h⟩ => ⟨ρ, S, σd, s, r, (PostG.bind (rel := Rep) h).mono fun x H1 ⟨ρ1, S1, dx, e1, s1, q1, h1⟩ => ?_⟩
  refine ⟨ρ1, S1, σd, s1, r.ext s e1, (PostG.bind (rel := relP) h1).mono fun l H2 ⟨ρ2, S2, l', e2, s2, q2, h2⟩ => ?_⟩
  cases (show l = l' from q2)
  refine ⟨ρ2, S2, σd, s2, (r.ext s e1).ext s1 e2, (PostG.bind (rel := relP) h2).mono fun u H3 ⟨ρ3, S3, u', e3, s3, q3, h3⟩ => ?_⟩
  cases (show u = u' from q3)
  have rx := (q1.ext s1 e2).ext s2 e3
  unfold slK2 fSl at h3
  split at h3
  · split at h3
    · rename_i hS
      cases rx with
      | loc ea =>
        obtain ⟨ys, hx, qy⟩ := s3.lst ea hS
        exact .inl ⟨_, ys, rfl, .of hx, new_lst s3 (cut_reps qy _ _) h3⟩
    · exact h3.elim
  · cases rx with
    | tup hx q =>
      refine .inr (.inl ⟨_, _, rfl, .of hx, fun hw => ?_, fun _ => new_tup s3 (cut_reps q _ _) h3⟩)
      rw [cutD_all q.length hw] at h3
      exact h3.here s3 (.tup hx q)
  · split at h3
    · rename_i hz
      cases rx
      exact .inr (.inr ⟨_, rfl, hz, h3.here s3 (.str _)⟩)
    · exact h3.elim
  · exact h3.elim
/-! ### chains -/
@[simp] def chK3 (f2 : Fn2) (mc : Me) (y : D) (σ : Sd) (S : Sto) : R D := (mc σ S).bind (f2 y)
@[simp] def chK2 (f2 : Fn2) (mc : Me) (σ : Sd) (y : D) (k : Bool) (S : Sto) : R D := brK k (chK3 f2 mc y) (mC (.bl false)) σ S
@[simp] def chKb (f2 : Fn2) (mc : Me) (σ : Sd) (y : D) (z : D) (S : Sto) : R D := (asB z S).bind (chK2 f2 mc σ y)
@[simp] def chK1 (f1 f2 : Fn2) (mc : Me) (σ : Sd) (x y : D) (S : Sto) : R D := (f1 x y S).bind (chKb f2 mc σ y)
@[simp] def chK (f1 f2 : Fn2) (mb mc : Me) (σ : Sd) (x : D) (S : Sto) : R D := (mb σ S).bind (chK1 f1 f2 mc σ x)
@[simp] def mChain (f1 f2 : Fn2) (ma mb mc : Me) (σ : Sd) (S : Sto) : R D := (ma σ S).bind (chK f1 f2 mb mc σ)
theorem chain_of {f1 f2 : Fn2} {r1 r2 : R2} (h1 : R2Ok E r1 f1) (h2 : R2Ok E r2 f2) {σ H Q} (h : tF E (mChain f1 f2 ma mb mc) σ H Q) : tChain r1 r2 (tF E ma) (tF E mb) (tF E mc) σ H Q := by
  obtain ⟨ρ, S, σd, s, r, h⟩ := h
  refine ⟨ρ, S, σd, s, r, (PostG.bind (rel := Rep) h).mono fun x H1 ⟨ρ1, S1, dx, e1, s1, q1, h3⟩ => ?_⟩
  refine ⟨ρ1, S1, σd, s1, r.ext s e1, (PostG.bind (rel := Rep) h3).mono fun y H2 ⟨ρ2, S2, dy, e2, s2, q2, h4⟩ => ?_⟩
  refine h1 ρ2 S2 H2 x y dx dy _ s2 (q1.ext s1 e2) q2 ((PostG.bind (rel := Rep) h4).mono fun z H3 ⟨ρ3, S3, dz, e3, s3, q3, h5⟩ => ?_)
  obtain ⟨k, rfl, h6⟩ := asB_bind s3 q3 h5
  refine ⟨k, rfl, ?_⟩
  have r3 := ((r.ext s e1).ext s1 e2).ext s2 e3
  cases k with
  | true => rw [if_pos rfl]; exact ⟨ρ3, S3, σd, s3, r3, (PostG.bind (rel := Rep) h6).mono fun w H4 ⟨ρ4, S4, dw, e4, s4, q4, h7⟩ => h2 ρ4 S4 H4 y w dy dw Q s4 ((q2.ext s2 e3).ext s3 e4) q4 h7⟩
  | false => rw [if_neg Bool.false_ne_true]; exact h6.here s3 (.bl _)
theorem fe_chain {op1 op2 : CmpOp} {f1 f2 : Fn2} (h1 : OpF X E (compareOp op1) f1) (h2 : OpF X E (compareOp op2) f2) (ha : FE X E a ma) (hb : FE X E b mb) (hc : FE X E c mc)
    (hm : lastMarks [op1, op2] [b, c] = false := by with_unfolding_all rfl) : FE X E (.Compare a [op1, op2] [b, c] pos) (mChain f1 f2 ma mb mc) := by
  obtain ⟨r1, a1, b1⟩ := h1.ex
  obtain ⟨r2, a2, b2⟩ := h2.ex
  exact pe_imp (pe_chain a1 a2 ha hb hc hm) fun σ H Q h => chain_of b1 b2 h
theorem ft_chain {op1 op2 : CmpOp} {f1 f2 : Fn2} (h1 : OpF X E (compareOp op1) f1) (h2 : OpF X E (compareOp op2) f2) (ha : FE X E a ma) (hb : FE X E b mb) (hc : FE X E c mc)
    (hm : lastMarks [op1, op2] [b, c] = false := by with_unfolding_all rfl) : FT X E (.Compare a [op1, op2] [b, c] pos) (mTest (mChain f1 f2 ma mb mc)) := by
  obtain ⟨r1, a1, b1⟩ := h1.ex
  obtain ⟨r2, a2, b2⟩ := h2.ex
  exact pt_imp (pt_chain a1 a2 ha hb hc hm) fun σ H Q h => chain_of b1 b2 (tTest_of h)
/-! ### ranges that go down -/
def dnD (lo : Int) (n : Nat) : List D := (List.range n).map fun (i : Nat) => .int (lo - (i : Int))
theorem dnD_get (lo : Int) (n i : Nat) : (dnD lo n)[i]? = if i < n then some (.int (lo - i)) else none := by
  unfold dnD
  rw [List.getElem?_map]
  by_cases h : i < n
  · rw [if_pos h, List.getElem?_range h]; rfl
  · rw [if_neg h, List.getElem?_eq_none (by simpa using h)]; rfl
theorem relSrc_dn {H ρ lo n} : relSrc H ρ (Itc lo (-1) n) (.its (dnD lo n)) := fun i ρ' S' H' e s _ => by
  show (∀ d, (dnD lo n)[i]? = some d → _) ∧ ((dnD lo n)[i]? = none → _)
  rw [dnD_get]
  by_cases h : i < n
  · rw [if_pos h]
    refine ⟨fun d hd => ⟨h, fun x H'' y => ?_⟩, fun z => nomatch z⟩
    cases hd
    obtain ⟨rfl, rfl⟩ := y
    refine ⟨ρ', .refl, s, ?_⟩
    have : lo + (i : Int) * (-1) = lo - i := by omega
    rw [this]
    exact .int _
  · rw [if_neg h]
    exact ⟨fun d hd => (nomatch hd), fun _ => Nat.le_of_not_lt h⟩
@[simp] def fRg3 (ds : List D) (S : Sto) : R Src := match ds with
  | [.int i, .int j, .int k] => if (rgOk i && rgOk j && decide (k = -1)) = true then .ok (.its (dnD i (i - j).toNat)) S else .bad
  | _ => .bad
theorem fi_range3 {tg a b c : Expr} {m : Ma} {p pos : Pos} (hg : Gl X "range") (hm : X.mg "range" = none) (ha : FA X E [a, b, c] m)
    (hs : starEach [a, b, c] X.env = (false, eval a X.env) :: starEach [b, c] X.env := by rfl) (hpl : (backTo pos (starEach [b, c] X.env)).any (·.1) = false := by rfl) : FI X E tg (.Call (.Name "range" p) [a, b, c] [] pos) (iRg fRg3 m) :=
  pi_imp (pi_range3 hg hm ha hs hpl) fun σ H Q ⟨ρ, S, σd, s, r, h⟩ => ⟨ρ, S, σd, s, r, (PostG.bind (rel := Reps) h).mono fun vs H1 ⟨ρ1, S1, ds, e1, s1, q1, h1⟩ => by
    unfold fRg3 at h1
    split at h1
    · split at h1
      · rename_i hk
        simp only [Bool.and_eq_true, decide_eq_true_eq] at hk
        obtain ⟨⟨h2, h3⟩, rfl⟩ := hk
        cases q1 with
        | cons a1 q1 =>
          cases q1 with
          | cons a2 q1 =>
            cases q1 with
            | cons a3 q1 =>
              cases q1
              cases a1; cases a2; cases a3
              have hi := rgOk_iff.mp h2
              have hj := rgOk_iff.mp h3
              exact ⟨_, _, _, _, rfl, RgC.neg hi.1 hi.2 hj.1 hj.2, h1.here s1 relSrc_dn⟩
      · exact h1.elim
    · exact h1.elim⟩
end
end FL
set_option Elab.async false
set_option linter.all false
set_option maxRecDepth 100000
set_option maxHeartbeats 4000000
/-! FLd: walked dicts: a dict is locked while an expression, a statement runs. -/
namespace FL
open PySem PySem.Spec PyProof.Rows L2
/-- the locked form of a dict -/
@[simp] def frzO : O → Option O
  | .dK kvs => some (.fK kvs)
  | .dT kvs => some (.fT kvs)
  | _ => none
open Classical in
noncomputable def unlE (n : Nat) (o fo : O) (r : R D) : R D := match r with
  | .ok d S => if S[n]? = some fo then .ok d (S.set n o) else .bad
  | _ => .bad
theorem unlE_ok {n o fo d S} (h : S[n]? = some fo) : unlE n o fo (.ok d S) = .ok d (S.set n o) := if_pos h
open Classical in
noncomputable def unlS (n : Nat) (o fo : O) (r : Fl) : Fl := match r with
  | .nx σ S => if S[n]? = some fo then .nx σ (S.set n o) else .bad
  | .ret d S => if S[n]? = some fo then .ret d (S.set n o) else .bad
  | .brk σ S => if S[n]? = some fo then .brk σ (S.set n o) else .bad
  | .cont σ S => if S[n]? = some fo then .cont σ (S.set n o) else .bad
  | _ => .bad
theorem unlS_nx {n o fo d S} (h : S[n]? = some fo) : unlS n o fo (.nx d S) = .nx d (S.set n o) := if_pos h
theorem unlS_ret {n o fo d S} (h : S[n]? = some fo) : unlS n o fo (.ret d S) = .ret d (S.set n o) := if_pos h
@[simp] noncomputable def lckE (m : Me) (σ : Sd) (S : Sto) (n : Nat) (o : O) : R D := match frzO o with
  | some fo => unlE n o fo (m σ (S.set n fo))
  | none => m σ S
@[simp] noncomputable def lckS (m : Ms) (σ : Sd) (S : Sto) (n : Nat) (o : O) : Fl := match frzO o with
  | some fo => unlS n o fo (m σ (S.set n fo))
  | none => m σ S
/-- a tells the dict -/
@[simp] noncomputable def mLockE (a m : Me) (σ : Sd) (S : Sto) : R D := match a σ S with
  | .ok (.loc n) _ => match S[n]? with
    | some o => lckE m σ S n o
    | none => m σ S
  | _ => m σ S
@[simp] noncomputable def mLockS (a : Me) (m : Ms) (σ : Sd) (S : Sto) : Fl := match a σ S with
  | .ok (.loc n) _ => match S[n]? with
    | some o => lckS m σ S n o
    | none => m σ S
  | _ => m σ S
/-- Sim alone, behind a step that rewrites a tracked object -/
theorem Sim.set' {ρ S H a n o u w} (s : Sim ρ S H) (ha : ρ[n]? = some a) (hw : H a = some w) (hn : ∀ xs, w ≠ .tup xs) (hr : RepO (upd H a u) ρ a o) : Sim ρ (S.set n o) (upd H a u) := by
  have tt := tup_upd (u := u) hw hn
  refine ⟨by simp [s.len], s.nd, fun k x h => ?_⟩
  by_cases hk : n = k
  · subst hk
    have hS : n < S.length := by rw [← s.len]; exact lt_of_some ha
    rw [List.getElem?_set_self hS] at h
    cases h
    exact ⟨a, ha, hr⟩
  · rw [List.getElem?_set_ne hk] at h
    obtain ⟨b, e1, r⟩ := s.at_ k x h
    have hb : b ≠ a := by
      rintro rfl
      exact hk ((List.getElem?_inj (lt_of_some ha) s.nd).mp (by rw [ha, e1]))
    exact ⟨b, e1, r.mono (List.prefix_refl _) tt fun u h => by rw [upd_ne hb]; exact h⟩
/-- what is locked, and what is wanted of it -/
theorem lock_of {ρ : List Addr} {S : Sto} {H : Hp} {n : Nat} {a : Addr} {o fo : O} (s : Sim ρ S H) (ea : ρ[n]? = some a) (hS : S[n]? = some o) (hf : frzO o = some fo) :
    ∃ u, H a = some u ∧ Mut (some u) ∧ ∀ od, (∀ σ σd, SRep H ρ σ σd → SRep (upd H a (.frz od u)) ρ σ σd) ∧ Sim ρ (S.set n fo) (upd H a (.frz od u)) ∧
      ∀ ρ' S' H', Ext ρ (upd H a (.frz od u)) ρ' H' → Sim ρ' S' H' → S'[n]? = some fo → H' a = some (.frz od u) ∧ Ext ρ H ρ' (upd H' a u) ∧ Sim ρ' (S'.set n o) (upd H' a u) ∧ (∀ v d, Rep H' ρ' v d → Rep (upd H' a u) ρ' v d) ∧ (∀ σ σd, SRep H' ρ' σ σd → SRep (upd H' a u) ρ' σ σd) := by
  obtain ⟨b, eb, ro⟩ := s.at_ n o hS
  rw [ea] at eb; cases eb
  have key : ∃ u, H a = some u ∧ Mut (some u) ∧ noFz u = true ∧ (∀ xs, u ≠ .tup xs) ∧ (∀ od, RepO (upd H a (.frz od u)) ρ a fo) ∧ ∀ od ρ' H', H' a = some (.frz od u) → RepO H' ρ' a fo → RepO (upd H' a u) ρ' a o := by
    cases o with
    | dK kvs =>
      cases hf
      obtain ⟨ks, hk, q⟩ := ro
      refine ⟨_, hk, trivial, rfl, fun _ z => (nomatch z), fun od => ⟨od, ks, upd_same, q.mono (List.prefix_refl _) (tup_upd hk fun _ z => nomatch z)⟩, fun od ρ' H' h r => ?_⟩
      obtain ⟨od', ks', h', q'⟩ := r
      rw [h] at h'; cases h'
      exact ⟨ks, upd_same, q'.mono (List.prefix_refl _) (tup_upd h fun _ z => nomatch z)⟩
    | dT kvs =>
      cases hf
      obtain ⟨ks, hk, q⟩ := ro
      refine ⟨_, hk, trivial, rfl, fun _ z => (nomatch z), fun od => ⟨od, ks, upd_same, q.mono (List.prefix_refl _) (tup_upd hk fun _ z => nomatch z)⟩, fun od ρ' H' h r => ?_⟩
      obtain ⟨od', ks', h', q'⟩ := r
      rw [h] at h'; cases h'
      exact ⟨ks, upd_same, q'.mono (List.prefix_refl _) (tup_upd h fun _ z => nomatch z)⟩
    | _ => cases hf
  obtain ⟨u, hu, mu, nf, nt, lo, ul⟩ := key
  refine ⟨u, hu, mu, fun od => ?_⟩
  obtain ⟨e0, s0⟩ := s.set ea hu nf (lo od)
  refine ⟨fun σ σd r => r.ext s e0, s0, fun ρ' S' H' e' s' hS' => ?_⟩
  have ha' : H' a = some (.frz od u) := e'.fz a od u upd_same
  have ea' := prefix_get e'.pre ea
  have neA : ∀ {b o}, H b = some o → b ∉ ρ → b ≠ a := fun {b o} _ hn z => hn (by rw [z]; exact List.mem_of_getElem? ea)
  have tt := tup_upd (u := u) ha' (fun _ z => nomatch z)
  obtain ⟨b, eb, ro'⟩ := s'.at_ n _ hS'
  rw [ea'] at eb; cases eb
  refine ⟨ha', ⟨e'.pre, fun b hb hn => ?_, fun b o hb hn => ?_, fun b o x hb => ?_⟩, s'.set' ea' ha' (fun _ z => nomatch z) (ul od ρ' H' ha' ro'), fun v d r => r.mono (List.prefix_refl _) tt, fun σ σd r => ⟨r.len, fun i d h => let ⟨v, e1, q⟩ := r.at_ i d h; ⟨v, e1, q.mono (List.prefix_refl _) tt⟩⟩⟩
  · have := e'.new b hb hn
    by_cases hba : b = a
    · rw [hba, upd_same] at this; cases this
    · rw [upd_ne hba] at this; exact this
  · have hba := neA hb hn
    rw [upd_ne hba]
    exact e'.fr b o (by rw [upd_ne hba]; exact hb) hn
  · have hba : b ≠ a := fun z => by rw [z, hu] at hb; cases hb; cases nf
    rw [upd_ne hba]
    exact e'.fz b o x (by rw [upd_ne hba]; exact hb)
section
variable {X : Cx} {E : XK}
theorem fe_lock {e : Expr} {m : Me} (a : Me) (h : FE X E e m) : FE X E e (mLockE a m) := by
  refine pe_imp (pe_or (pe_lock h) h) fun σ H Q ⟨ρ, S, σd, s, r, hp⟩ => ?_
  unfold mLockE at hp
  split at hp
  · rename_i n S1 ha
    split at hp
    · rename_i o hS
      unfold lckE at hp
      split at hp
      · rename_i fo hf
        have hn : n < ρ.length := by rw [s.len]; exact lt_of_some hS
        obtain ⟨u, hu, mu, k⟩ := lock_of s (List.getElem?_eq_getElem hn) hS hf
        refine .inl ⟨_, u, hu, mu, fun od => ?_⟩
        obtain ⟨r0, s0, k⟩ := k od
        refine ⟨ρ, _, σd, s0, r0 _ _ r, ?_⟩
        revert hp
        generalize m σd (S.set n fo) = mm
        intro hp
        cases mm with
        | ok d S2 =>
          unfold unlE at hp
          simp only at hp
          split at hp
          · rename_i hS2
            intro v ρ' H' e' s' q
            obtain ⟨z1, z2, z3, z4, _⟩ := k ρ' S2 H' e' s' hS2
            exact ⟨z1, hp v ρ' _ z2 z3 (z4 _ _ q)⟩
          · exact hp.elim
        | exc _ _ _ => exact hp.elim
        | bad => exact hp.elim
      · exact .inr ⟨ρ, S, σd, s, r, hp⟩
    · exact .inr ⟨ρ, S, σd, s, r, hp⟩
  · exact .inr ⟨ρ, S, σd, s, r, hp⟩
theorem ps_or {e : Stmt} {t t' : TS} (h : PS X e t) (h' : PS X e t') : PS X e (fun D σ H => t D σ H ∨ t' D σ H) := ⟨fun pins s σ H D I hw => hw.elim (h.run pins s σ H D I) (h'.run pins s σ H D I)⟩
theorem fs_lock {e : Stmt} {m : Ms} (a : Me) (h : FS X E e m) : FS X E e (mLockS a m) := by
  refine ps_imp (ps_or (ps_lock h) h) fun D σ H ⟨ρ, S, σd, s, r, hp⟩ => ?_
  unfold mLockS at hp
  split at hp
  · rename_i n S1 ha
    split at hp
    · rename_i o hS
      unfold lckS at hp
      split at hp
      · rename_i fo hf
        have hn : n < ρ.length := by rw [s.len]; exact lt_of_some hS
        obtain ⟨u, hu, mu, k⟩ := lock_of s (List.getElem?_eq_getElem hn) hS hf
        refine .inl ⟨_, u, hu, mu, fun od => ?_⟩
        obtain ⟨r0, s0, k⟩ := k od
        refine ⟨ρ, _, σd, s0, r0 _ _ r, ?_⟩
        revert hp
        generalize m σd (S.set n fo) = mm
        intro hp
        cases mm with
        | nx d S2 =>
          unfold unlS at hp
          simp only at hp
          split at hp
          · rename_i hS2
            intro v ρ' H' e' s' q
            obtain ⟨z1, z2, z3, _, z4⟩ := k ρ' S2 H' e' s' hS2
            exact ⟨z1, hp v ρ' _ z2 z3 (z4 _ _ q)⟩
          · exact hp.elim
        | brk d S2 =>
          unfold unlS at hp
          simp only at hp
          split at hp
          · rename_i hS2
            intro v ρ' H' e' s' q
            obtain ⟨z1, z2, z3, _, z4⟩ := k ρ' S2 H' e' s' hS2
            exact ⟨z1, hp v ρ' _ z2 z3 (z4 _ _ q)⟩
          · exact hp.elim
        | cont d S2 =>
          unfold unlS at hp
          simp only at hp
          split at hp
          · rename_i hS2
            intro v ρ' H' e' s' q
            obtain ⟨z1, z2, z3, _, z4⟩ := k ρ' S2 H' e' s' hS2
            exact ⟨z1, hp v ρ' _ z2 z3 (z4 _ _ q)⟩
          · exact hp.elim
        | ret d S2 =>
          unfold unlS at hp
          simp only at hp
          split at hp
          · rename_i hS2
            intro v ρ' H' e' s' q
            obtain ⟨z1, z2, z3, z4, _⟩ := k ρ' S2 H' e' s' hS2
            exact ⟨z1, hp v ρ' _ z2 z3 (z4 _ _ q)⟩
          · exact hp.elim
        | exc _ _ _ => exact hp.elim
        | bad => exact hp.elim
      · exact .inr ⟨ρ, S, σd, s, r, hp⟩
    · exact .inr ⟨ρ, S, σd, s, r, hp⟩
  · exact .inr ⟨ρ, S, σd, s, r, hp⟩
end
end FL
set_option Elab.async false
set_option linter.all false
set_option maxRecDepth 100000
set_option maxHeartbeats 4000000
/-! FL7: defs by name. -/
namespace FL
open PySem PySem.Spec PyProof.Rows L2
structure DefOk (P : Program) (w : World) (K : PySem.W.Frag) (mg : Str → Option Value) (base : Heap) (k : Nat) (x : Str) (ps : List Str) (f : FnL) : Prop where
  ex : ∃ fa fd, FnOk P w K mg base CX0 k fa fd ps (spF f) ∧ mg x = some (.ref fa) ∧ PySem.W.keepIn K (.ref fa) = true ∧ Binds K fd ps []
section
variable {X : Cx} {E : XK} {pos p : Pos} {k j : Nat} {x : Str} {ps : List Str} {f : FnL} {e : Expr} {es : List Expr} {t : Ma}
theorem fe_callD (F : DefOk X.prog X.w X.K X.mg X.base k x ps f) (hr : Room j X.A) (hg : Gl X x) (ha : FA X E (e :: es) t) (hkj : k ≤ j := by decide)
    (hdb : (x == ("__debug__" : Str)) = false := by decide) (he : starEach (e :: es) X.env = (false, eval e X.env) :: starEach es X.env := by rfl) (hpl : (backTo pos (starEach es X.env)).any (·.1) = false := by rfl) :
    FE X E (.Call (.Name x p) (e :: es) [] pos) (mL f t) := by
  obtain ⟨fa, fd, F, hm, hk, hb⟩ := F.ex
  exact fe_call F (hr.mono hkj) hg hm hk hb pass0' ha hdb he hpl
theorem fe_callD0 (F : DefOk X.prog X.w X.K X.mg X.base k x ps f) (hr : Room j X.A) (hg : Gl X x) (hkj : k ≤ j := by decide)
    (hdb : (x == ("__debug__" : Str)) = false := by decide) : FE X E (.Call (.Name x p) [] [] pos) (mL f aNil) := by
  obtain ⟨fa, fd, F, hm, hk, hb⟩ := F.ex
  exact fe_call0 F (hr.mono hkj) hg hm hk hb pass0' hdb
theorem fv (i : Nat) (hN : X.N[i]? = some x := by rfl) (hv : Vis X.env.scope x := by first | exact Or.inl rfl | exact Or.inr (Or.inl rfl) | exact Or.inr (Or.inr rfl)) (hd : (x == ("__debug__" : Str)) = false := by decide)
    (hcd : (x == ("__classdict__" : Str)) = false := by decide) : FE X E (.Name x pos) (mVar i) := fe_var hN hv hd hcd
end
section
variable {P : Program} {w : World} {K : PySem.W.Frag} {mg : Str → Option Value} {base : Heap} {x qual : Str} {params : Arguments} {body : List Stmt} {scope : Scope} {fa : Addr} {fd : FuncData}
theorem okFD {N ps : List Str} {k : Nat} {m : Ms} (F : FunD K x qual params body scope [] [] fa fd) (S : FnScope N ps scope) (hN : ps.length ≤ N.length)
    (hbody : ∀ (cdv : Value) (A : Around) (outer : List Env) (s : Shared) (H : Hp) (E : XK), Room k (A.deeper (envOfC qual scope s.heap.objs.size fa cdv)) →
      FSs (cxOf CX0 P w K mg base N qual scope fa cdv A outer s H E).nox E body m) : FnOk P w K mg base CX0 (k + 1) fa fd ps (spF (runB ps.length N.length m)) := by
  refine F.ok S (fun vs H Q E ⟨ρ, S, ds, s, q, h⟩ => ?_) fun cdv A outer s H vs Q E hr ⟨ρ, S, ds, s', q, h⟩ => ⟨_, PSs.nox (hbody cdv A outer s H E hr), runB_body s' q hN h⟩
  rw [q.length]
  exact runB_len h
theorem okDef {N ps : List Str} {k : Nat} {m : Ms} (F : FunD K x qual params body scope [] [] fa fd) (g : mg x = some (.ref fa)) (S : FnScope N ps scope)
    (hb : ∀ (kV doc pm : Value) (an : Option Addr) (cdv ct : Value) (us : List Value), us.length = ps.length → bindArgs (PySem.W.fnOf x qual params body scope .none kV doc pm an cdv ct) ⟨us, []⟩ = pure (ps.zip us))
    (hbody : ∀ (cdv : Value) (A : Around) (outer : List Env) (s : Shared) (H : Hp) (E : XK), Room k (A.deeper (envOfC qual scope s.heap.objs.size fa cdv)) →
      FSs (cxOf CX0 P w K mg base N qual scope fa cdv A outer s H E).nox E body m) (hN : ps.length ≤ N.length := by decide) : DefOk P w K mg base (k + 1) x ps (runB ps.length N.length m) :=
  ⟨fa, fd, okFD F S hN hbody, g, F.kp, F.bindsN hb⟩
end
/-! ### the law's first row: d = _law_begin(script) -/
section
variable {P : Program} {w : World} {K : PySem.W.Frag} {mg : Str → Option Value} {base : Heap}
/-- what _law_begin promises: the script's ints in a new list, in a new list with two noughts and an eleven -/
def spBegin (K : PySem.W.Frag) : Sp := fun vs H Q _ => ∃ (a : Addr) (ns : List Int), vs = [.ref a] ∧ SqL K H a (ns.map V.int) ∧ ns.length ≤ 63 ∧
  ∀ H' p q, Same H H' → H p = none → H q = none → p ≠ q → H' p = some (.lst (ns.map V.int)) → H' q = some (.lst [.ref p, .int 0, .int 0, .int 11]) → Q (.ref q) H'
def begSto (ns : List Int) : Sto := [.lst (ns.map D.int), .lst [.loc 0, .int 0, .int 0, .int 11]]
theorem Reps.ints {H ρ} : ∀ ns : List Int, Reps H ρ (ns.map V.int) (ns.map D.int)
  | [] => .nil
  | _ :: r => .cons (.int _) (Reps.ints r)
theorem beg_sim {H' : Hp} {p q : Addr} {ns : List Int} (hpq : p ≠ q) (hp : H' p = some (.lst (ns.map V.int))) (hq : H' q = some (.lst [.ref p, .int 0, .int 0, .int 11])) : Sim [p, q] (begSto ns) H' := by
  refine ⟨rfl, by simp [hpq], fun n o h => ?_⟩
  match n, h with
  | 0, h =>
    cases h
    exact ⟨p, rfl, _, hp, .ints ns⟩
  | 1, h =>
    cases h
    exact ⟨q, rfl, _, hq, .cons (.loc rfl) (.cons (.int _) (.cons (.int _) (.cons (.int _) .nil)))⟩
  | n + 2, h => simp [begSto] at h
end
/-- the reading of _law_begin's body -/
abbrev tBeg (K : PySem.W.Frag) : TS := tRet (tLst (tCons (tLc (iList K (tVar 0)) (gName 1) tYes (tCB (fun xs H Q => (∃ i, xs = [.int i] ∧ Q (.int i) H) ∨ ∃ k, xs = [.bl k] ∧ Q (.int (if k then 1 else 0)) H) (tCons (tVar 1) tNil)) [1])
  (tCons (tC (.int 0)) (tCons (tC (.int 0)) (tCons (tC (.int 11)) tNil)))))
theorem beg_reads {K : PySem.W.Frag} {vs : List V} {H : Hp} {Q : VK} {E : XK} (h : spBegin K vs H Q E) : tBeg K { nx := fun _ H' => Q .non H', rt := Q } (L2.start ["script", "cell"] vs) H := by
  obtain ⟨a, ns, rfl, hS, hl, q⟩ := h
  refine ⟨.ref a, rfl, a, rfl, ⟨_, hS⟩, fun D hD => ?_⟩
  have sm : ∀ xs, Same H (upd H D (.lst xs)) := fun xs b o e => by rw [upd_ne (ne_of_none e hD)]; exact e
  refine lc_list (xs := ns.map V.int) (fun i H' => H' = upd H D (.lst ((ns.map V.int).take i))) rfl (fun i H' _ e => by subst e; exact (sm _).seq hS) (fun i x H' hx e => ?_) fun H' e => ?_
  · subst e
    rw [List.getElem?_map] at hx
    cases hn : ns[i]? with
    | none => rw [hn] at hx; cases hx
    | some k =>
      rw [hn] at hx
      cases hx
      refine ⟨rfl, ?_⟩
      dsimp only [tYes]
      rw [if_pos rfl]
      refine ⟨.int k, rfl, .inl ⟨k, rfl, _, upd_same, ?_, ?_⟩⟩
      · rw [List.length_take, List.length_map]
        have : 63 < sizeLine := by decide
        omega
      · rw [upd_upd, List.take_add_one, List.getElem?_map, hn]
        rfl
  · subst e
    refine ⟨(by show 4 ≤ sizeLine; decide), fun p hp => ?_⟩
    have et : (ns.map V.int).take (ns.map V.int).length = ns.map V.int := List.take_length
    rw [et] at hp ⊢
    have hpD : D ≠ p := fun z => by rw [← z, upd_same] at hp; cases hp
    have hpH : H p = none := by rw [upd_ne (Ne.symm hpD)] at hp; exact hp
    refine q _ D p (fun b o e => ?_) hD hpH hpD (by rw [upd_ne hpD, upd_same]) upd_same
    rw [upd_ne (ne_of_none e hpH)]
    exact sm _ b o e
/-- what the law promises -/
def spLaw (K : PySem.W.Frag) : Sp := fun vs H Q _ => ∃ (a : Addr) (ns : List Int), vs = [.ref a] ∧ SqL K H a (ns.map V.int) ∧ ns.length ≤ 63 ∧ ∀ H', Q (.bl true) H'
theorem law_reads {K : PySem.W.Frag} {N : List Str} {m : Ms} {vs : List V} {H : Hp} {Q : VK} {E E' : XK} {n : Nat} (hN : N.length = n + 2)
    (M : ∀ ns : List Int, ns.length ≤ 63 → ∃ S', m (none :: some (.loc 1) :: List.replicate n none) (begSto ns) = .ret (.bl true) S') (h : spLaw K vs H Q E) :
    tSeq (tAsg (tCall (spBegin K) [] E' (tCons (tVar 0) tNil)) (gName 1)) (tFS E m) { nx := fun _ H' => Q .non H', rt := Q } (L2.start N vs) H := by
  obtain ⟨a, ns, rfl, hS, hl, q⟩ := h
  have es : L2.start N [.ref a] = some (.ref a) :: none :: List.replicate n none := by
    unfold L2.start
    rw [hN]
    rfl
  rw [es]
  refine ⟨.ref a, rfl, a, ns, rfl, hS, hl, fun H' p r sm hp hr hpr e1 e2 => ?_⟩
  obtain ⟨S', em⟩ := M ns hl
  refine ⟨[p, r], begSto ns, none :: some (.loc 1) :: List.replicate n none, beg_sim hpr e1 e2, ⟨by simp, fun i d h => ?_⟩, ?_⟩
  · match i, h with
    | 0, h => cases h
    | 1, h => cases h; exact ⟨.ref r, rfl, .loc rfl⟩
    | i + 2, h =>
      have h : (List.replicate n (none : Option D))[i]? = some (some d) := by simpa using h
      rw [List.getElem?_replicate] at h
      split at h <;> cases h
  · rw [em]
    intro v ρ' H'' _ _ r
    cases r
    exact q H''
end FL
set_option Elab.async false
set_option linter.all false
set_option maxRecDepth 100000
set_option maxHeartbeats 4000000
/-! FL8: how functional readings are reckoned. -/
namespace FL
open PySem PySem.Spec PyProof.Rows L2
/-! ### the big functions, by cases -/
section
variable {S : Sto} {n : Nat} {ds : List D} {kvs : List (Key × D)} {kts : List (List Key × D)} {i : Int} {x : Str} {k : List Key} {y : D}
@[simp] theorem sub_lst (h : S[n]? = some (.lst ds)) : fSub_ (.loc n) (.int i) S = okO S (atI ds i) := by simp only [fSub_, h]
@[simp] theorem sub_tup : fSub_ (.tup ds) (.int i) S = okO S (atI ds i) := rfl
@[simp] theorem sub_dKi (h : S[n]? = some (.dK kvs)) : fSub_ (.loc n) (.int i) S = okO S (valD kvs (.inl i)) := by simp only [fSub_, h]; rfl
@[simp] theorem sub_dKs (h : S[n]? = some (.dK kvs)) : fSub_ (.loc n) (.str x) S = okO S (valD kvs (.inr x)) := by simp only [fSub_, h]; rfl
@[simp] theorem sub_fKi (h : S[n]? = some (.fK kvs)) : fSub_ (.loc n) (.int i) S = okO S (valD kvs (.inl i)) := by simp only [fSub_, h]; rfl
@[simp] theorem sub_fKs (h : S[n]? = some (.fK kvs)) : fSub_ (.loc n) (.str x) S = okO S (valD kvs (.inr x)) := by simp only [fSub_, h]; rfl
theorem sub_dT (h : S[n]? = some (.dT kts)) (hk : keyT y = some k) : fSub_ (.loc n) y S = okO S (valD kts k) := by simp only [fSub_, h, lookD, hk, Option.map_some]
theorem sub_fT (h : S[n]? = some (.fT kts)) (hk : keyT y = some k) : fSub_ (.loc n) y S = okO S (valD kts k) := by simp only [fSub_, h, lookD, hk, Option.map_some]
@[simp] theorem get_lst (h : S[n]? = some (.lst ds)) : fGet_ (.loc n) (.int i) S = okO S (atI ds i) := by simp only [fGet_, h]
@[simp] theorem get_dKi (h : S[n]? = some (.dK kvs)) : fGet_ (.loc n) (.int i) S = okO S (valD kvs (.inl i)) := by simp only [fGet_, h]; rfl
@[simp] theorem get_dKs (h : S[n]? = some (.dK kvs)) : fGet_ (.loc n) (.str x) S = okO S (valD kvs (.inr x)) := by simp only [fGet_, h]; rfl
theorem get_dT (h : S[n]? = some (.dT kts)) (hk : keyT y = some k) : fGet_ (.loc n) y S = okO S (valD kts k) := by simp only [fGet_, h, lookD, hk, Option.map_some]
@[simp] theorem len_lst (h : S[n]? = some (.lst ds)) : fLen [.loc n] S = .ok (.int ds.length) S := by simp only [fLen, h]
@[simp] theorem len_tup : fLen [.tup ds] S = .ok (.int ds.length) S := rfl
theorem len_str (h : x.length ≤ sizeLine) : fLen [.str x] S = .ok (.int x.length) S := by simp only [fLen, h, if_true]
@[simp] theorem it_lst (h : S[n]? = some (.lst ds)) : fIt (.loc n) S = .ok (.at_ n (.lst ds) ds) S := by simp only [fIt, h]
@[simp] theorem it_tup : fIt (.tup ds) S = .ok (.its ds) S := rfl
@[simp] theorem it_str : fIt (.str x) S = .ok (.its (strD x)) S := rfl
@[simp] theorem it_fK (h : S[n]? = some (.fK kvs)) : fIt (.loc n) S = .ok (.at_ n (.fK kvs) (kvs.map fun p => keyD p.1)) S := by simp only [fIt, h]
@[simp] theorem it_fT (h : S[n]? = some (.fT kts)) : fIt (.loc n) S = .ok (.at_ n (.fT kts) (kts.map fun p => .tup (p.1.map keyD))) S := by simp only [fIt, h]
@[simp] theorem eqv_ints {neg : Bool} {i j : Int} : fEqv neg (.int i) (.int j) S = .ok (.bl (neg ^^ decide (i = j))) S := rfl
@[simp] theorem eqv_strs {neg : Bool} {i j : Str} : fEqv neg (.str i) (.str j) S = .ok (.bl (neg ^^ decide (i = j))) S := rfl
@[simp] theorem eqv_bls {neg : Bool} {i j : Bool} : fEqv neg (.bl i) (.bl j) S = .ok (.bl (neg ^^ decide (i = j))) S := rfl
theorem in_lst {neg : Bool} (h : S[n]? = some (.lst ds)) (hf : (flatD y && ds.all flatD) = true) : fInN neg y (.loc n) S = .ok (.bl (neg ^^ ds.any fun e => eqvD e y)) S := by
  cases y <;> simp only [fInN, h, hf, if_true]
theorem in_tup {neg : Bool} (hf : (flatD y && ds.all flatD) = true) : fInN neg y (.tup ds) S = .ok (.bl (neg ^^ ds.any fun e => eqvD e y)) S := by
  cases y <;> simp only [fInN, hf, if_true]
@[simp] theorem in_dKi {neg : Bool} (h : S[n]? = some (.dK kvs)) : fInN neg (.int i) (.loc n) S = .ok (.bl (neg ^^ (valD kvs (.inl i)).isSome)) S := by simp only [fInN, h]; rfl
@[simp] theorem in_dKs {neg : Bool} (h : S[n]? = some (.dK kvs)) : fInN neg (.str x) (.loc n) S = .ok (.bl (neg ^^ (valD kvs (.inr x)).isSome)) S := by simp only [fInN, h]; rfl
theorem in_dT {neg : Bool} (h : S[n]? = some (.dT kts)) (hk : keyT y = some k) : fInN neg y (.loc n) S = .ok (.bl (neg ^^ (valD kts k).isSome)) S := by
  cases y <;> simp only [fInN, h, lookD, hk, Option.map_some]
@[simp] theorem sl_lst {lo hi : Option Int} (h : S[n]? = some (.lst ds)) : fSl (.loc n) lo hi S = .ok (.loc S.length) (S ++ [.lst (cutD ds lo hi)]) := by simp only [fSl, h]
@[simp] theorem sl_tp {lo hi : Option Int} : fSl (.tup ds) lo hi S = .ok (.tup (cutD ds lo hi)) S := rfl
@[simp] theorem tupOf_lst (h : S[n]? = some (.lst ds)) : fTupOf [.loc n] S = .ok (.tup ds) S := by simp only [fTupOf, h]
@[simp] theorem tupOf_tup : fTupOf [.tup ds] S = .ok (.tup ds) S := rfl
@[simp] theorem lstOf_lst (h : S[n]? = some (.lst ds)) : fLstOf [.loc n] S = .ok (.loc S.length) (S ++ [.lst ds]) := by simp only [fLstOf, h]
@[simp] theorem lstOf_dK (h : S[n]? = some (.dK kvs)) : fLstOf [.loc n] S = .ok (.loc S.length) (S ++ [.lst (kvs.map fun p => keyD p.1)]) := by simp only [fLstOf, h]
@[simp] theorem add_ints {i j : Int} : fAdd (.int i) (.int j) S = .ok (.int (i + j)) S := rfl
theorem add_strs {a b : Str} (h : a.length + b.length ≤ sizeLine) : fAdd (.str a) (.str b) S = .ok (.str (a ++ b)) S := by simp only [fAdd, h, if_true]
theorem add_tups {a b : List D} (h : a.length + b.length ≤ sizeLine) : fAdd (.tup a) (.tup b) S = .ok (.tup (a ++ b)) S := by simp only [fAdd, h, if_true]
theorem add_lsts {a b : List D} {n m : Nat} (hn : S[n]? = some (.lst a)) (hm : S[m]? = some (.lst b)) (h : a.length + b.length ≤ sizeLine) : fAdd (.loc n) (.loc m) S = .ok (.loc S.length) (S ++ [.lst (a ++ b)]) := by simp only [fAdd, hn, hm, h, if_true]
@[simp] theorem lstOf_tup : fLstOf [.tup ds] S = .ok (.loc S.length) (S ++ [.lst ds]) := rfl
end
theorem trim_keep {S S' : Sto} {d : D} (hl : S'.length = S.length) (hd : d.und S.length = true) (hk : ∀ i < S.length, S'[i]? = S[i]? ∨ ∃ o, S'[i]? = some o ∧ o.und S.length = true) : trim S d S' = .ok d S' := by
  unfold trim
  rw [if_pos ⟨Nat.le_of_eq hl.symm, hk⟩, if_pos hd, ← hl, List.take_length]
/-- nothing of the store has changed, what was made is dropped -/
theorem trim_pre {S J : Sto} {d : D} (hd : d.und S.length = true) : trim S d (S ++ J) = .ok d S := by
  unfold trim
  rw [if_pos ⟨by rw [List.length_append]; omega, fun i hi => .inl (List.getElem?_append_left hi)⟩, if_pos hd, List.take_left']
  rfl
theorem trim_self {S : Sto} {d : D} (hd : d.und S.length = true) : trim S d S = .ok d S := by
  have := trim_pre (S := S) (J := []) hd
  rwa [List.append_nil] at this
/-- .. a new object is handed back -/
theorem trim_new {S J : Sto} {n : Nat} {o : O} (hn : ¬ n < S.length) (ho : (S ++ J)[n]? = some o) (hu : o.und S.length = true) : trim S (.loc n) (S ++ J) = .ok (.loc S.length) (S ++ [o]) := by
  unfold trim
  rw [if_pos ⟨by rw [List.length_append]; omega, fun i hi => .inl (List.getElem?_append_left hi)⟩, if_neg (by simpa [D.und] using hn)]
  simp only
  rw [ho]
  simp only
  rw [if_pos hu, List.take_left' rfl]
@[simp] theorem und_non (k) : D.und k .non = true := by simp only [D.und]
@[simp] theorem und_int (k i) : D.und k (.int i) = true := by simp only [D.und]
@[simp] theorem und_bl (k i) : D.und k (.bl i) = true := by simp only [D.und]
@[simp] theorem und_str (k i) : D.und k (.str i) = true := by simp only [D.und]
@[simp] theorem und_tup (k ds) : D.und k (.tup ds) = D.unds k ds := by simp only [D.und]
@[simp] theorem und_loc (k n) : D.und k (.loc n) = decide (n < k) := by simp only [D.und]
@[simp] theorem unds_nil (k) : D.unds k [] = true := by simp only [D.unds]
@[simp] theorem unds_cons (k d ds) : D.unds k (d :: ds) = (d.und k && D.unds k ds) := by simp only [D.unds]
theorem unds_all (k ds) : D.unds k ds = ds.all fun d => d.und k := by
  induction ds with
  | nil => rfl
  | cons d r ih => rw [unds_cons, List.all_cons, ih]
@[simp] theorem unds_ints (k) (ns : List Int) : D.unds k (ns.map D.int) = true := by rw [unds_all, List.all_eq_true]; intro d hd; obtain ⟨i, _, rfl⟩ := List.mem_map.mp hd; rfl
theorem forL_nil (src g b σ S) : forL src g b [] σ S = chk S src (.nx σ S) .bad := rfl
theorem forL_cons (src g b d ds σ S) : forL src g b (d :: ds) σ S = chk S src (match (g d σ S).fl b with
    | .nx σ2 S2 => forL src g b ds σ2 S2
    | .cont σ2 S2 => forL src g b ds σ2 S2
    | .brk σ2 S2 => .nx σ2 S2
    | r => r) .bad := by
  show chk S src ((g d σ S).fl _) .bad = _
  congr 1
  cases g d σ S <;> rfl
/-- a loop over a range, by what holds ahead of each turn -/
theorem for_rg {lo : Int} {n : Nat} {g : Mg} {b : Ms} (P : Nat → Sd → Sto → Prop) {σ S} (h0 : P 0 σ S)
    (hs : ∀ i σ S, i < n → P i σ S → ∃ σ' S', ((g (.int (lo + (i : Int))) σ S).fl b = .nx σ' S' ∨ (g (.int (lo + (i : Int))) σ S).fl b = .cont σ' S') ∧ P (i + 1) σ' S') :
    ∃ σ' S', forL (.its (rgD lo n)) g b (rgD lo n) σ S = .nx σ' S' ∧ P n σ' S' := by
  have key : ∀ (m i : Nat) σ S, i + m = n → P i σ S → ∃ σ' S', forL (.its (rgD lo n)) g b ((rgD lo n).drop i) σ S = .nx σ' S' ∧ P n σ' S' := by
    intro m
    induction m with
    | zero =>
      intro i σ S hi p
      rw [List.drop_of_length_le (by simp [rgD]; omega)]
      exact ⟨σ, S, rfl, by rw [← hi]; exact p⟩
    | succ m ih =>
      intro i σ S hi p
      have hl : i < (rgD lo n).length := by simp [rgD]; omega
      have he : (rgD lo n)[i] = .int (lo + (i : Int)) := by simp [rgD]
      rw [List.drop_eq_getElem_cons hl, forL_cons, chk_its, he]
      obtain ⟨σ', S', e, p'⟩ := hs i σ S (by omega) p
      rcases e with e | e <;> (rw [e]; exact ih (i + 1) σ' S' (by omega) p')
  have := key n 0 σ S (by omega) h0
  simpa using this
/-! ### the law's draws -/
def dst (ns : List Int) (p r s : Int) : Sto := [.lst (ns.map D.int), .lst [.loc 0, .int p, .int r, .int s]]
theorem beg_dst (ns : List Int) : begSto ns = dst ns 0 0 11 := rfl
theorem chk_ok {α : Type} {S : Sto} {src : Src} {r b : α} (h : okSrc S src) : chk S src r b = r := by
  cases src with
  | its ds => rfl
  | at_ n o ds => exact chk_lst h
/-- a loop, by what holds ahead of each turn -/
theorem for_src {src : Src} {g : Mg} {b : Ms} (P : Nat → Sd → Sto → Prop) {σ S} (h0 : P 0 σ S) (hok : ∀ i σ S, P i σ S → okSrc S src)
    (hs : ∀ i d σ S, src.items[i]? = some d → P i σ S → ∃ σ' S', ((g d σ S).fl b = .nx σ' S' ∨ (g d σ S).fl b = .cont σ' S') ∧ P (i + 1) σ' S') :
    ∃ σ' S', forL src g b src.items σ S = .nx σ' S' ∧ P src.items.length σ' S' := by
  have key : ∀ (m i : Nat) σ S, i + m = src.items.length → P i σ S → ∃ σ' S', forL src g b (src.items.drop i) σ S = .nx σ' S' ∧ P src.items.length σ' S' := by
    intro m
    induction m with
    | zero =>
      intro i σ S hi p
      rw [List.drop_of_length_le (by omega), forL_nil, chk_ok (hok i σ S p)]
      exact ⟨σ, S, rfl, by rw [← hi]; exact p⟩
    | succ m ih =>
      intro i σ S hi p
      have hl : i < src.items.length := by omega
      rw [List.drop_eq_getElem_cons hl, forL_cons, chk_ok (hok i σ S p)]
      obtain ⟨σ', S', e, p'⟩ := hs i _ σ S (List.getElem?_eq_getElem hl) p
      rcases e with e | e <;> (rw [e]; exact ih (i + 1) σ' S' (by omega) p')
  have := key _ 0 σ S (Nat.zero_add _) h0
  simpa using this
/-- .. over a range, by an integer -/
theorem for_rgZ {lo : Int} {n : Nat} {g : Mg} {b : Ms} (P : Int → Sd → Sto → Prop) {σ S} (h0 : P 0 σ S)
    (hs : ∀ (k : Int) σ S, 0 ≤ k → k < n → P k σ S → ∃ σ' S', ((g (.int (lo + k)) σ S).fl b = .nx σ' S' ∨ (g (.int (lo + k)) σ S).fl b = .cont σ' S') ∧ P (k + 1) σ' S') :
    ∃ σ' S', forL (.its (rgD lo n)) g b (rgD lo n) σ S = .nx σ' S' ∧ P n σ' S' :=
  for_rg (P := fun i => P (i : Int)) h0 fun i σ S hi p => hs i σ S (by omega) (by omega) p
/-- .. that ends by a return at turn k -/
theorem for_ret {src : Src} {g : Mg} {b : Ms} (P : Nat → Sd → Sto → Prop) {σ S} (k : Nat) (Q : D → Sto → Prop) (hk : k < src.items.length) (h0 : P 0 σ S) (hok : ∀ i σ S, P i σ S → okSrc S src)
    (hs : ∀ i d σ S, i < k → src.items[i]? = some d → P i σ S → ∃ σ' S', ((g d σ S).fl b = .nx σ' S' ∨ (g d σ S).fl b = .cont σ' S') ∧ P (i + 1) σ' S')
    (hr : ∀ d σ S, src.items[k]? = some d → P k σ S → ∃ v S', (g d σ S).fl b = .ret v S' ∧ Q v S') :
    ∃ v S', forL src g b src.items σ S = .ret v S' ∧ Q v S' := by
  have key : ∀ (m i : Nat) σ S, i + m = k → P i σ S → ∃ v S', forL src g b (src.items.drop i) σ S = .ret v S' ∧ Q v S' := by
    intro m
    induction m with
    | zero =>
      intro i σ S hi p
      obtain rfl : i = k := by omega
      rw [List.drop_eq_getElem_cons hk, forL_cons, chk_ok (hok i σ S p)]
      obtain ⟨v, S', e, q⟩ := hr _ σ S (List.getElem?_eq_getElem hk) p
      rw [e]
      exact ⟨v, S', rfl, q⟩
    | succ m ih =>
      intro i σ S hi p
      have hl : i < src.items.length := by omega
      rw [List.drop_eq_getElem_cons hl, forL_cons, chk_ok (hok i σ S p)]
      obtain ⟨σ', S', e, p'⟩ := hs i _ σ S (by omega) (List.getElem?_eq_getElem hl) p
      rcases e with e | e <;> (rw [e]; exact ih (i + 1) σ' S' (by omega) p')
  have := key k 0 σ S (Nat.zero_add _) h0
  simpa using this
/-- a comprehension whose parts change nothing -/
theorem compL_pure {src : Src} {g : Mg} {t : Mt} {e : Me} {vs : List Nat} {σ : Sd} {S : Sto} (p : D → Bool) (F : D → D) (hok : okSrc S src) : ∀ (ds acc : List D),
    (∀ d ∈ ds, ∃ σ1, g d (wipeD σ vs) S = .ok σ1 S ∧ t σ1 S = .ok (p d) S ∧ (p d = true → e σ1 S = .ok (F d) S)) → acc.length + ds.length ≤ sizeLine →
    compL src g t e vs σ ds acc S = .ok (.loc S.length) (S ++ [.lst (acc ++ (ds.filter p).map F)])
  | [], acc, _, _ => by
    unfold compL
    rw [chk_ok hok]
    simp
  | d :: ds, acc, h, hz => by
    obtain ⟨σ1, h1, h2, h3⟩ := h d (by simp)
    have hz' : acc.length + (ds.length + 1) ≤ sizeLine := hz
    unfold compL
    rw [chk_ok hok, h1]
    simp only [R.bind_ok]
    rw [h2]
    simp only [R.bind_ok]
    cases hp : p d with
    | false =>
      simp only [List.filter_cons, hp]
      exact compL_pure p F hok ds acc (fun x hx => h x (by simp [hx])) (by omega)
    | true =>
      simp only []
      rw [h3 hp]
      simp only [R.bind_ok]
      rw [if_pos (by omega), compL_pure p F hok ds (acc ++ [F d]) (fun x hx => h x (by simp [hx])) (by simp; omega)]
      simp [List.filter_cons, hp]
theorem compL_map {src : Src} {g : Mg} {e : Me} {vs : List Nat} {σ : Sd} {S : Sto} (F : D → D) (hok : okSrc S src) (ds : List D)
    (h : ∀ d ∈ ds, ∃ σ1, g d (wipeD σ vs) S = .ok σ1 S ∧ e σ1 S = .ok (F d) S) (hz : ds.length ≤ sizeLine) :
    compL src g mYes e vs σ ds [] S = .ok (.loc S.length) (S ++ [.lst (ds.map F)]) := by
  have := compL_pure (p := fun _ => true) F hok ds [] (t := mYes) (g := g) (e := e) (vs := vs) (σ := σ) (fun d hd => by
    obtain ⟨σ1, h1, h2⟩ := h d hd
    exact ⟨σ1, h1, rfl, fun _ => h2⟩) (by simpa using hz)
  have e : ds.filter (fun _ => true) = ds := List.filter_eq_self.mpr fun _ _ => rfl
  rw [e] at this
  simpa using this
theorem okSrc_its {S : Sto} {ds : List D} : okSrc S (.its ds) := trivial
/-- [x for x in ..] -/
theorem compL_id {ds : List D} {i : Nat} {σ : Sd} {S : Sto} (hi : i < σ.length) (hz : ds.length ≤ sizeLine) : compL (.its ds) (gN i) mYes (mVar i) [i] σ ds [] S = .ok (.loc S.length) (S ++ [.lst ds]) := by
  have := compL_map (src := .its ds) (g := gN i) (e := mVar i) (vs := [i]) (σ := σ) (S := S) id okSrc_its ds (fun d hd => ⟨_, rfl, by simp [wipeD, hi]⟩) hz
  rw [this, List.map_id]
@[simp] theorem rgD_len (lo n) : (rgD lo n).length = n := by simp [rgD]
/-! ### the draws' part of a store -/
@[simp] theorem dst_len (ns p r s) : (dst ns p r s).length = 2 := rfl
@[simp high] theorem dst_get {ns p r s J n} : (dst ns p r s ++ J)[2 + n]? = J[n]? := by
  rw [List.getElem?_append_right (by simp)]
  congr 1
  simp
theorem dst_get2 {ns p r s J n} : (dst ns p r s ++ J)[n + 2]? = J[n]? := by rw [Nat.add_comm]; exact dst_get
theorem trim_dst {ns p r s p' r' s' J d} (hd : d.und (2 + J.length) = true) : trim (dst ns p r s ++ J) d (dst ns p' r' s' ++ J) = .ok d (dst ns p' r' s' ++ J) := by
  refine trim_keep (by simp) (by simpa using hd) fun i hi => ?_
  match i with
  | 0 => exact .inl rfl
  | 1 => exact .inr ⟨_, rfl, by simp [O.und]; omega⟩
  | i + 2 => exact .inl rfl
/-- .. what was made behind it is dropped -/
theorem trim_dst2 {ns p r s p' r' s' J J' d} (hd : d.und (2 + J.length) = true) : trim (dst ns p r s ++ J) d (dst ns p' r' s' ++ (J ++ J')) = .ok d (dst ns p' r' s' ++ J) := by
  unfold trim
  rw [if_pos ?k, if_pos (by simpa using hd)]
  · rw [← List.append_assoc, List.take_left' (by simp)]
  · refine ⟨by simp, fun i hi => ?_⟩
    match i with
    | 0 => exact .inl rfl
    | 1 => exact .inr ⟨_, rfl, by simp [O.und]; omega⟩
    | i + 2 =>
      refine .inl ?_
      rw [dst_get2, dst_get2, List.getElem?_append_left (by simp at hi; omega)]
theorem kit_ii : kitB "int" "int" = some true := by decide +kernel
theorem kit_ib : kitB "int" "bool" = some false := by decide +kernel
end FL
set_option Elab.async false
set_option linter.all false
set_option maxRecDepth 100000
set_option maxHeartbeats 4000000
/-! FL9: == of data, tables, rows of ints. -/
namespace FL
open PySem PySem.Spec PyProof.Rows L2
/-! ### data without bools, types, objects: == is identity -/
mutual
def D.nb : D → Bool
  | .non => true | .int _ => true | .str x => PyData.canLay0 (.str x) | .tup ds => D.nbs ds | _ => false
def D.nbs : List D → Bool
  | [] => true
  | d :: ds => d.nb && D.nbs ds
end
mutual
def D.dep : D → Nat
  | .tup ds => D.deps ds + 1 | _ => 0
def D.deps : List D → Nat
  | [] => 0
  | d :: ds => max d.dep (D.deps ds)
end
mutual
def D.toPy : D → PyData
  | .int i => .int i | .str x => .str x | .tup ds => .tuple (D.toPys ds) | _ => .none
def D.toPys : List D → List PyData
  | [] => []
  | d :: ds => d.toPy :: D.toPys ds
end
mutual
theorem D.py_nb : ∀ d : D, d.nb = true → d.py = some d.toPy
  | .non, _ => rfl
  | .int _, _ => rfl
  | .str _, _ => rfl
  | .tup ds, h => by simp only [D.py, D.toPy, D.pys_nb ds (by simpa only [D.nb] using h), Option.map_some]
  | .bl _, h => by simp only [D.nb] at h; cases h
  | .ty _, h => by simp only [D.nb] at h; cases h
  | .loc _, h => by simp only [D.nb] at h; cases h
theorem D.pys_nb : ∀ ds : List D, D.nbs ds = true → D.pys ds = some (D.toPys ds)
  | [], _ => rfl
  | d :: ds, h => by
    simp only [D.nbs, Bool.and_eq_true] at h
    simp only [D.pys, D.py_nb d h.1, D.pys_nb ds h.2, D.toPys, Option.bind_some, Option.map_some]
end
mutual
theorem D.lay_nb : ∀ d : D, d.nb = true → d.toPy.canLay0 = true
  | .non, _ => rfl
  | .int _, _ => rfl
  | .str x, h => by simpa only [D.nb, D.toPy] using h
  | .bl _, _ => rfl
  | .ty _, _ => rfl
  | .loc _, _ => rfl
  | .tup ds, h => by simp only [D.toPy, PyData.canLay0]; exact D.lays_nb ds (by simpa only [D.nb] using h)
theorem D.lays_nb : ∀ ds : List D, D.nbs ds = true → PyData.canLayAll0 (D.toPys ds) = true
  | [], _ => rfl
  | d :: ds, h => by
    simp only [D.nbs, Bool.and_eq_true] at h
    simp only [D.toPys, PyData.canLayAll0, D.lay_nb d h.1, D.lays_nb ds h.2, Bool.and_self]
end
mutual
theorem D.dep_nb : ∀ d : D, d.toPy.depth = d.dep
  | .non => rfl
  | .int _ => rfl
  | .str _ => rfl
  | .bl _ => rfl
  | .ty _ => rfl
  | .loc _ => rfl
  | .tup ds => by simp only [D.toPy, PyData.depth, D.dep, D.deps_nb ds]
theorem D.deps_nb : ∀ ds : List D, PyData.depthAll (D.toPys ds) = D.deps ds
  | [] => rfl
  | d :: ds => by simp only [D.toPys, PyData.depthAll, D.deps, D.dep_nb d, D.deps_nb ds]
end
mutual
theorem D.eqv_nb : ∀ a b : D, a.nb = true → b.nb = true → (PyData.eqv a.toPy b.toPy = true ↔ a = b)
  | a, b, ha, hb => by
    cases a <;> cases b <;> simp only [D.nb] at ha hb <;> first | (cases ha; done) | (cases hb; done) | skip
    all_goals simp [D.toPy, PyData.eqv]
    exact D.eqvs_nb _ _ ha hb
theorem D.eqvs_nb : ∀ a b : List D, D.nbs a = true → D.nbs b = true → (PyData.eqvAll (D.toPys a) (D.toPys b) = true ↔ a = b)
  | [], [], _, _ => by simp [D.toPys, PyData.eqvAll]
  | [], _ :: _, _, _ => by simp [D.toPys, PyData.eqvAll]
  | _ :: _, [], _, _ => by simp [D.toPys, PyData.eqvAll]
  | x :: xs, y :: ys, ha, hb => by
    simp only [D.nbs, Bool.and_eq_true] at ha hb
    simp only [D.toPys, PyData.eqvAll, Bool.and_eq_true, D.eqv_nb x y ha.1 hb.1, D.eqvs_nb xs ys ha.2 hb.2, List.cons.injEq]
end
open Classical in
theorem eqv_data {S : Sto} {a b : D} (ha : a.nb = true) (hb : b.nb = true) (da : a.dep ≤ 64) (db : b.dep ≤ 64) : D.eqv S a b = some (decide (a = b)) := by
  have pa : a.pyS S = some a.toPy := by cases a <;> first | exact D.py_nb _ ha | (simp only [D.nb] at ha; cases ha)
  have pb : b.pyS S = some b.toPy := by cases b <;> first | exact D.py_nb _ hb | (simp only [D.nb] at hb; cases hb)
  have sa : SeqAt.shaped a.toPy = true := by unfold SeqAt.shaped; rw [D.lay_nb a ha, D.dep_nb, Bool.true_and]; exact decide_eq_true da
  have sb : SeqAt.shaped b.toPy = true := by unfold SeqAt.shaped; rw [D.lay_nb b hb, D.dep_nb, Bool.true_and]; exact decide_eq_true db
  simp only [D.eqv, pa, pb, Option.bind_some, sa, sb, Bool.and_self, if_true]
  congr 1
  rw [Bool.eq_iff_iff, D.eqv_nb a b ha hb, decide_eq_true_iff]
theorem nbs_all (ds : List D) : D.nbs ds = ds.all D.nb := by
  induction ds with
  | nil => rfl
  | cons d r ih => rw [D.nbs, List.all_cons, ih]
theorem deps_le {k : Nat} : ∀ {ds : List D}, (∀ d ∈ ds, d.dep ≤ k) → D.deps ds ≤ k
  | [], _ => Nat.zero_le _
  | d :: r, h => by rw [D.deps]; exact Nat.max_le.mpr ⟨h d (by simp), deps_le fun x hx => h x (by simp [hx])⟩
/-! ### rows of ints -/
/-- a length as an int that nothing evaluates -/
noncomputable def len {α : Type} (r : List α) : Int := Classical.choose (⟨r.length, rfl⟩ : ∃ x : Int, x = r.length)
theorem len_eq {α : Type} (r : List α) : len r = r.length := Classical.choose_spec (⟨r.length, rfl⟩ : ∃ x : Int, x = r.length)
theorem len_nat {α : Type} (r : List α) : (len r).toNat = r.length := by rw [len_eq]; omega
theorem len_pos {α : Type} (r : List α) : 0 ≤ len r := by rw [len_eq]; omega
def at_ (r : List Int) (i : Int) : Int := r.getD i.toNat 0
theorem atI_get {α : Type} {ds : List α} {i : Int} (h0 : 0 ≤ i) (h1 : i < len ds) : atI ds i = ds[i.toNat]? := by
  rw [len_eq] at h1
  simp only [atI, ixN]
  rw [if_pos h0, if_pos (by omega)]
  rfl
theorem at_map {r : List Int} {i : Int} (h0 : 0 ≤ i) (h1 : i < len r) : atI (r.map D.int) i = some (.int (at_ r i)) := by
  rw [atI_get h0 (by simpa [len_eq] using h1), List.getElem?_map]
  have : i.toNat < r.length := by rw [len_eq] at h1; omega
  simp [at_, List.getElem?_eq_getElem this]
/-- a row of ints as a tuple; rows of rows -/
def rowD (r : List Int) : D := .tup (r.map .int)
def rowsD (rs : List (List Int)) : D := .tup (rs.map rowD)
@[simp] theorem und_row (k r) : D.und k (rowD r) = true := by simp [rowD]
@[simp] theorem und_rows (k rs) : D.und k (rowsD rs) = true := by
  unfold rowsD
  rw [und_tup, unds_all, List.all_eq_true]
  intro d hd
  obtain ⟨r, _, rfl⟩ := List.mem_map.mp hd
  simp
theorem rowD_inj {a b : List Int} : rowD a = rowD b ↔ a = b := by
  unfold rowD
  constructor
  · intro h
    injection h with h
    have := congrArg intsD h
    rw [intsD_map, intsD_map] at this
    exact Option.some.inj this
  · rintro rfl; rfl
theorem nb_row (r : List Int) : (rowD r).nb = true := by
  unfold rowD
  rw [D.nb, nbs_all, List.all_eq_true]
  intro d hd
  obtain ⟨i, _, rfl⟩ := List.mem_map.mp hd
  rfl
theorem dep_row (r : List Int) : (rowD r).dep ≤ 64 := by
  unfold rowD
  rw [D.dep]
  have := deps_le (k := 0) (ds := r.map D.int) fun d hd => by
    obtain ⟨i, _, rfl⟩ := List.mem_map.mp hd
    exact Nat.le_refl _
  omega
open Classical in
theorem eqv_row (neg : Bool) (a b : List Int) (S : Sto) : fEqv neg (rowD a) (rowD b) S = .ok (.bl (neg ^^ decide (a = b))) S := by
  have e := eqv_data (S := S) (nb_row a) (nb_row b) (dep_row a) (dep_row b)
  unfold rowD at e ⊢
  simp only [fEqv, e]
  congr 3
  rw [Bool.eq_iff_iff, decide_eq_true_iff, decide_eq_true_iff]
  exact rowD_inj (a := a) (b := b)
@[simp] theorem len_row (r : List Int) (S : Sto) : fLen [rowD r] S = .ok (.int (len r)) S := by simp [rowD, len_eq]
theorem sub_row {r : List Int} {i : Int} (h0 : 0 ≤ i) (h1 : i < len r) (S : Sto) : fSub_ (rowD r) (.int i) S = .ok (.int (at_ r i)) S := by
  simp [rowD, at_map h0 h1]
@[simp] theorem it_row (r : List Int) (S : Sto) : fIt (rowD r) S = .ok (.its (r.map .int)) S := rfl
@[simp] theorem it_rows (rs : List (List Int)) (S : Sto) : fIt (rowsD rs) S = .ok (.its (rs.map rowD)) S := rfl
theorem sl_row {r : List Int} {lo hi : Option Int} (S : Sto) : fSl (rowD r) lo hi S = .ok (rowD (cutD r lo hi)) S := by
  unfold rowD
  rw [sl_tp]
  unfold cutD
  rw [List.length_map, List.map_take, List.map_drop]
theorem cut_to {α : Type} {r : List α} {i : Int} (h0 : 0 ≤ i) (h1 : i ≤ r.length) : cutD r none (some i) = r.take i.toNat := by
  unfold cutD
  have h2 : HT.sIx r.length r.length (some i) = i.toNat := by
    unfold HT.sIx; simp only; rw [if_neg (by omega)]; omega
  rw [h2]; rfl
theorem cut_from {α : Type} {r : List α} {i : Int} (h0 : 0 ≤ i) (h1 : i ≤ r.length) : cutD r (some i) none = r.drop i.toNat := by
  unfold cutD
  have h2 : HT.sIx r.length 0 (some i) = i.toNat := by
    unfold HT.sIx; simp only; rw [if_neg (by omega)]; omega
  have h3 : HT.sIx r.length r.length none = r.length := rfl
  rw [h2, h3, List.take_of_length_le (by rw [List.length_drop]; omega)]
theorem add_row {a b : List Int} (h : a.length + b.length ≤ 1000) (S : Sto) : fAdd (rowD a) (rowD b) S = .ok (rowD (a ++ b)) S := by
  unfold rowD
  rw [add_tups (by rw [List.length_map, List.length_map, sizeLine_eq]; omega), List.map_append]
/-! ### the store's last object -/
theorem get_last {S : Sto} {o : O} : (S ++ [o])[S.length]? = some o := by simp
theorem set_last {S : Sto} {o o' : O} : (S ++ [o]).set S.length o' = S ++ [o'] := by simp
/-- a step into a loop's body (by no unfolding: the kernel would unfold the body) -/
theorem gN_fl (i : Nat) (d : D) (σ : Sd) (S : Sto) (b : Ms) : (gN i d σ S).fl b = b (σ.set i (some d)) S := by
  have h : gN i d σ S = .ok (σ.set i (some d)) S := rfl
  rw [h, R.fl_ok]
theorem nx_of {i : Nat} {d : D} {σ : Sd} {S : Sto} {b : Ms} {r : Fl} (h : b (σ.set i (some d)) S = r) : (gN i d σ S).fl b = r := (gN_fl i d σ S b).trans h
/-- a comprehension over a range, by what holds ahead of each turn -/
theorem comp_rg {lo : Int} {n : Nat} {g : Mg} {e : Me} {vs : List Nat} {σ : Sd} {S : Sto} (P : Nat → List D → Sto → Prop) (h0 : P 0 [] S) (hz : n ≤ sizeLine)
    (hs : ∀ i acc S, i < n → P i acc S → ∃ σ1 y S', g (.int (lo + (i : Int))) (wipeD σ vs) S = .ok σ1 S ∧ e σ1 S = .ok y S' ∧ P (i + 1) (acc ++ [y]) S') :
    ∃ acc S', compL (.its (rgD lo n)) g mYes e vs σ (rgD lo n) [] S = .ok (.loc S'.length) (S' ++ [.lst acc]) ∧ acc.length = n ∧ P n acc S' := by
  have key : ∀ (m i : Nat) acc S, i + m = n → acc.length = i → P i acc S → ∃ acc' S', compL (.its (rgD lo n)) g mYes e vs σ ((rgD lo n).drop i) acc S = .ok (.loc S'.length) (S' ++ [.lst acc']) ∧ acc'.length = n ∧ P n acc' S' := by
    intro m
    induction m with
    | zero =>
      intro i acc S hi ha p
      rw [List.drop_of_length_le (by simp [rgD]; omega)]
      unfold compL
      rw [chk_its]
      exact ⟨acc, S, rfl, by omega, by rw [← hi]; exact p⟩
    | succ m ih =>
      intro i acc S hi ha p
      have hl : i < (rgD lo n).length := by simp [rgD]; omega
      have he : (rgD lo n)[i] = .int (lo + (i : Int)) := by simp [rgD]
      rw [List.drop_eq_getElem_cons hl, he]
      obtain ⟨σ1, y, S', h1, h2, p'⟩ := hs i acc S (by omega) p
      obtain ⟨acc', S'', h3, h4⟩ := ih (i + 1) (acc ++ [y]) S' (by omega) (by simp [ha]) p'
      refine ⟨acc', S'', ?_, h4⟩
      unfold compL
      rw [chk_its, h1]
      simp only [R.bind_ok, mYes, h2]
      rw [if_pos (by omega)]
      exact h3
  have := key n 0 [] S (by omega) rfl h0
  simpa using this
/-- a loop over the images of a list -/
theorem for_map {α : Type} {xs : List α} {f : α → D} {g : Mg} {b : Ms} (P : Nat → Sd → Sto → Prop) {σ S} (h0 : P 0 σ S)
    (hs : ∀ i x σ S, xs[i]? = some x → P i σ S → ∃ σ' S', ((g (f x) σ S).fl b = .nx σ' S' ∨ (g (f x) σ S).fl b = .cont σ' S') ∧ P (i + 1) σ' S') :
    ∃ σ' S', forL (.its (xs.map f)) g b (xs.map f) σ S = .nx σ' S' ∧ P xs.length σ' S' := by
  have := for_src (src := .its (xs.map f)) (g := g) (b := b) P h0 (fun _ _ _ _ => trivial) fun i d σ S hd p => by
    have hd : (xs.map f)[i]? = some d := hd
    rw [List.getElem?_map, Option.map_eq_some_iff] at hd
    obtain ⟨x, hx, rfl⟩ := hd
    exact hs i x σ S hx p
  simpa using this
/-- a loop over the ticks of a row -/
theorem for_row {r : List Int} {g : Mg} {b : Ms} (P : Nat → Sd → Sto → Prop) {σ S} (h0 : P 0 σ S)
    (hs : ∀ (i : Nat) (k : Int) σ S, k = i → 0 ≤ k → k < len r → P i σ S → ∃ σ' S', ((g (.int (0 + k)) σ S).fl b = .nx σ' S' ∨ (g (.int (0 + k)) σ S).fl b = .cont σ' S') ∧ P (i + 1) σ' S') :
    ∃ σ' S', forL (.its (rgD 0 (len r).toNat)) g b (rgD 0 (len r).toNat) σ S = .nx σ' S' ∧ P r.length σ' S' := by
  have := for_rg (lo := 0) (n := (len r).toNat) (g := g) (b := b) P h0 fun i σ S hi p => hs i i σ S rfl (by omega) (by omega) p
  have e : (len r).toNat = r.length := by rw [len_eq]; omega
  obtain ⟨σ', S', h, p⟩ := this
  rw [e] at p
  exact ⟨σ', S', h, p⟩
end FL
set_option Elab.async false
set_option linter.all false
set_option maxRecDepth 100000
set_option maxHeartbeats 4000000
/-! the defs of the linked text: functional readings and derivations (printed by gen.py) -/
namespace G
open PySem PySem.Spec PyProof.Rows L2 FL
def topS (i : Nat) : Stmt := PySem.Challenge.pw_judgedplay_k94_best_tables.main.body.getD i (.Pass ⟨0, 0, 0, 0⟩)
abbrev FnP (K : PySem.W.Frag) (x : Str) (st : Stmt) (f : Addr) (fd : FuncData) : Prop := FunD K x x (defArgs st) (defBody st) (defScope st) [] [] f fd
structure Bi (mg : Str → Option Value) : Prop where
  b_abs : mg "abs" = none
  b_all : mg "all" = none
  b_bool : mg "bool" = none
  b_int : mg "int" = none
  b_isinstance : mg "isinstance" = none
  b_len : mg "len" = none
  b_range : mg "range" = none
  b_sum : mg "sum" = none
  b_tuple : mg "tuple" = none
abbrev scounted_pairs : Stmt := topS 1
abbrev Ncounted_pairs : List Str := ["rows", "late", "found", "row", "tick", "known", "pair"]
theorem sccounted_pairs : FnScope ["rows", "late", "found", "row", "tick", "known", "pair"] ["rows", "late"] (defScope scounted_pairs) := ⟨rfl, rfl, rfl, by decide +kernel, rfl, by decide +kernel, by decide +kernel⟩
noncomputable def mcounted_pairs_b1 : Ms :=
  (mSeq (mSet 5 (mIf (mTest (mOp fGe (mVar 4) (mVar 1))) (mOp fSub_ (mVar 3) (mOp fSub (mVar 4) (mVar 1))) (mC (.int 0))))
  (mSeq (mSet 6 (mL fTup (aCons (mVar 5) (aCons (mOp fSub_ (mVar 3) (mVar 4)) aNil))))
  (mAsg (mOp fAdd (mDget (mVar 2) (mVar 6) (mC (.int 0))) (mC (.int 1))) (gSb fSet_ (mVar 2) (mVar 6)))))
noncomputable def mcounted_pairs_b2 : Ms :=
  (mFor (iRg fRg1 (aCons (mL fLen (aCons (mVar 3) aNil)) aNil)) (gN 4)
    mcounted_pairs_b1)
noncomputable def mcounted_pairs : Ms :=
  (mSeq (mSet 2 mDnewT)
  (mSeq (mFor (mIt (mVar 0)) (gN 3)
    mcounted_pairs_b2)
  (mRet (mVar 2))))
noncomputable def fcounted_pairs : FnL := runB 2 7 mcounted_pairs
theorem okcounted_pairs {P : Program} {w : World} {K : PySem.W.Frag} {mg : Str → Option Value} {base : Heap} {fa : Addr} {fd : FuncData} (B : Bi mg) (F : FnP K "counted_pairs" scounted_pairs fa fd) (g : mg "counted_pairs" = some (.ref fa)) :
    DefOk P w K mg base 1 "counted_pairs" ["rows", "late"] fcounted_pairs :=
  okDef (N := ["rows", "late", "found", "row", "tick", "known", "pair"]) F g sccounted_pairs (fun _ _ _ _ _ _ us hl => match us, hl with | [_, _], _ => rfl) fun cdv A outer s H E hr =>
    (fss_cons (fs_set (i := 2) sccounted_pairs.nd rfl (.inl rfl) fe_dnewT)
    (fss_cons (fs_for PassesOwn.never rfl (fi_any (fv 0)) (fg_name (i := 3) sccounted_pairs.nd rfl (.inl rfl)) (fss_one (fs_for PassesOwn.never rfl (fi_range1 (by rfl) B.b_range (fa_cons (fe_callB call_lenF (by rfl) B.b_len (by decide +kernel) (fa_cons (fv 3) fa_nil)) fa_nil)) (fg_name (i := 4) sccounted_pairs.nd rfl (.inl rfl)) (fss_cons (fs_set (i := 5) sccounted_pairs.nd rfl (.inl rfl) (fe_if (ft_cmp op_geF (fv 4) (fv 1) (nomark _)) (fe_sub (hu_of hr) (fv 3) (fe_op op_subF (fv 4) (fv 1)) (fun _ _ => rfl)) fe_int))
    (fss_cons (fs_set (i := 6) sccounted_pairs.nd rfl (.inl rfl) (fe_tup (fa_cons (fv 5) (fa_cons (fe_sub (hu_of hr) (fv 3) (fv 4) (fun _ _ => rfl)) fa_nil))))
    (fss_one (fs_asg (fe_op op_addF (fe_dget (hu_of hr) (fv 2) (fv 6) fe_int) fe_int) (fg_sub (fv 2) (fv 6) (setF (hu_of hr))))))))))
    (fss_one (fs_ret (fv 2)))))

abbrev swrong_guesses : Stmt := topS 2
abbrev Nwrong_guesses : List Str := ["table", "rows", "late", "pairs", "pair"]
theorem scwrong_guesses : FnScope ["table", "rows", "late", "pairs", "pair"] ["table", "rows", "late"] (defScope swrong_guesses) := ⟨rfl, rfl, rfl, by decide +kernel, rfl, by decide +kernel, by decide +kernel⟩
noncomputable def mwrong_guesses : Ms :=
  (mSeq (mSet 3 (mL fcounted_pairs (aCons (mVar 1) (aCons (mVar 2) aNil))))
  (mRet (mL fSum (aCons (mLockE (mVar 3) (mComp (mIt (mVar 3)) (gN 4) (mTest (mOp fNe (mOp fSub_ (mVar 0) (mOp fSub_ (mVar 4) (mC (.int 0)))) (mOp fSub_ (mVar 4) (mC (.int 1))))) (mOp fSub_ (mVar 3) (mVar 4)) [4])) aNil))))
noncomputable def fwrong_guesses : FnL := runB 3 5 mwrong_guesses
theorem okwrong_guesses {P : Program} {w : World} {K : PySem.W.Frag} {mg : Str → Option Value} {base : Heap} {fa : Addr} {fd : FuncData} (B : Bi mg) (F : FnP K "wrong_guesses" swrong_guesses fa fd) (g : mg "wrong_guesses" = some (.ref fa)) (Dcounted_pairs : DefOk P w K mg base 1 "counted_pairs" ["rows", "late"] fcounted_pairs) :
    DefOk P w K mg base 2 "wrong_guesses" ["table", "rows", "late"] fwrong_guesses :=
  okDef (N := ["table", "rows", "late", "pairs", "pair"]) F g scwrong_guesses (fun _ _ _ _ _ _ us hl => match us, hl with | [_, _, _], _ => rfl) fun cdv A outer s H E hr =>
    (fss_cons (fs_set (i := 3) scwrong_guesses.nd rfl (.inr rfl) (fe_callD Dcounted_pairs hr (by rfl) (fa_cons (fv 1) (fa_cons (fv 2) fa_nil))))
    (fss_one (fs_ret (fe_callB (call_sumF rfl) (by rfl) B.b_sum (by decide +kernel) (fa_cons (fe_lock (mVar 3) (fe_lc (own := [("pair", 4)]) (g := (gN 4)) (t := (mTest (mOp fNe (mOp fSub_ (mVar 0) (mOp fSub_ (mVar 4) (mC (.int 0)))) (mOp fSub_ (mVar 4) (mC (.int 1)))))) rfl scwrong_guesses.nd (fi_any (fv 3)) (blkOk_by (N := Nwrong_guesses) (sc := defScope swrong_guesses) (by decide +kernel)) (fun _ _ _ _ _ => (fg_name (i := 4) scwrong_guesses.nd rfl (.inl rfl))) (fun _ _ _ _ _ => (fts_one (ft_cmp (op_neF hr.units) (fe_sub (hu_of hr) (fv 0) (fe_sub (hu_of hr) (fv 4) fe_int (fun _ _ => rfl)) (fun _ _ => rfl)) (fe_sub (hu_of hr) (fv 4) fe_int (fun _ _ => rfl)) (nomark _)))) (fun _ _ _ _ _ => (fe_sub (hu_of hr) (fv 3) (fv 4) (fun _ _ => rfl))))) fa_nil)))))

abbrev sbest_key : Stmt := topS 3
abbrev Nbest_key : List Str := ["pairs", "known", "many", "best", "key"]
theorem scbest_key : FnScope ["pairs", "known", "many", "best", "key"] ["pairs", "known", "many"] (defScope sbest_key) := ⟨rfl, rfl, rfl, by decide +kernel, rfl, by decide +kernel, by decide +kernel⟩
noncomputable def mbest_key_b1 : Ms :=
  (mIfS (mTest (mOp fGt (mDget (mVar 0) (mL fTup (aCons (mVar 1) (aCons (mVar 4) aNil))) (mC (.int 0))) (mDget (mVar 0) (mL fTup (aCons (mVar 1) (aCons (mVar 3) aNil))) (mC (.int 0))))) (mSet 3 (mVar 4)) mNext)
noncomputable def mbest_key : Ms :=
  (mSeq (mSet 3 (mC (.int 0)))
  (mSeq (mFor (iRg fRg2 (aCons (mC (.int 1)) (aCons (mVar 2) aNil))) (gN 4)
    mbest_key_b1)
  (mRet (mVar 3))))
noncomputable def fbest_key : FnL := runB 3 5 mbest_key
theorem okbest_key {P : Program} {w : World} {K : PySem.W.Frag} {mg : Str → Option Value} {base : Heap} {fa : Addr} {fd : FuncData} (B : Bi mg) (F : FnP K "best_key" sbest_key fa fd) (g : mg "best_key" = some (.ref fa)) :
    DefOk P w K mg base 1 "best_key" ["pairs", "known", "many"] fbest_key :=
  okDef (N := ["pairs", "known", "many", "best", "key"]) F g scbest_key (fun _ _ _ _ _ _ us hl => match us, hl with | [_, _, _], _ => rfl) fun cdv A outer s H E hr =>
    (fss_cons (fs_set (i := 3) scbest_key.nd rfl (.inl rfl) fe_int)
    (fss_cons (fs_for PassesOwn.never rfl (fi_range2 (by rfl) B.b_range (fa_cons fe_int (fa_cons (fv 2) fa_nil))) (fg_name (i := 4) scbest_key.nd rfl (.inl rfl)) (fss_one (fs_if (ft_cmp op_gtF (fe_dget (hu_of hr) (fv 0) (fe_tup (fa_cons (fv 1) (fa_cons (fv 4) fa_nil))) fe_int) (fe_dget (hu_of hr) (fv 0) (fe_tup (fa_cons (fv 1) (fa_cons (fv 3) fa_nil))) fe_int) (nomark _)) (fss_one (fs_set (i := 3) scbest_key.nd rfl (.inl rfl) (fv 4))) fss_nil)))
    (fss_one (fs_ret (fv 3)))))

abbrev sbest_table : Stmt := topS 4
abbrev Nbest_table : List Str := ["rows", "many", "late", "pairs", "known"]
theorem scbest_table : FnScope ["rows", "many", "late", "pairs", "known"] ["rows", "many", "late"] (defScope sbest_table) := ⟨rfl, rfl, rfl, by decide +kernel, rfl, by decide +kernel, by decide +kernel⟩
noncomputable def mbest_table : Ms :=
  (mSeq (mSet 3 (mL fcounted_pairs (aCons (mVar 0) (aCons (mVar 2) aNil))))
  (mRet (mL fTupOf (aCons (mComp (iRg fRg1 (aCons (mVar 1) aNil)) (gN 4) mYes (mL fbest_key (aCons (mVar 3) (aCons (mVar 4) (aCons (mVar 1) aNil)))) [4]) aNil))))
noncomputable def fbest_table : FnL := runB 3 5 mbest_table
theorem okbest_table {P : Program} {w : World} {K : PySem.W.Frag} {mg : Str → Option Value} {base : Heap} {fa : Addr} {fd : FuncData} (B : Bi mg) (F : FnP K "best_table" sbest_table fa fd) (g : mg "best_table" = some (.ref fa)) (Dcounted_pairs : DefOk P w K mg base 1 "counted_pairs" ["rows", "late"] fcounted_pairs) (Dbest_key : DefOk P w K mg base 1 "best_key" ["pairs", "known", "many"] fbest_key) :
    DefOk P w K mg base 2 "best_table" ["rows", "many", "late"] fbest_table :=
  okDef (N := ["rows", "many", "late", "pairs", "known"]) F g scbest_table (fun _ _ _ _ _ _ us hl => match us, hl with | [_, _, _], _ => rfl) fun cdv A outer s H E hr =>
    (fss_cons (fs_set (i := 3) scbest_table.nd rfl (.inr rfl) (fe_callD Dcounted_pairs hr (by rfl) (fa_cons (fv 0) (fa_cons (fv 2) fa_nil))))
    (fss_one (fs_ret (fe_callTy call_tupF (by rfl) B.b_tuple (by decide +kernel) (fa_cons (fe_lc (own := [("known", 4)]) (g := (gN 4)) (t := mYes) rfl scbest_table.nd (fi_range1 (by rfl) B.b_range (fa_cons (fv 1) fa_nil)) (blkOk_by (N := Nbest_table) (sc := defScope sbest_table) (by decide +kernel)) (fun _ _ _ _ _ => (fg_name (i := 4) scbest_table.nd rfl (.inl rfl))) (fun _ _ _ _ _ => fts_nil) (fun _ _ _ _ _ => (fe_callD Dbest_key hr (by rfl) (fa_cons (fv 3) (fa_cons (fv 4) (fa_cons (fv 1) fa_nil)))))) fa_nil)))))

abbrev slast_known : Stmt := topS 6
abbrev Nlast_known : List Str := ["known", "tick", "one"]
theorem sclast_known : FnScope ["known", "tick", "one"] ["known", "tick"] (defScope slast_known) := ⟨rfl, rfl, rfl, by decide +kernel, rfl, by decide +kernel, by decide +kernel⟩
noncomputable def mlast_known_b1 : Ms :=
  (mIfS (mTest (mOp fIn (mVar 2) (mVar 0))) (mRet (mVar 2)) mNext)
noncomputable def mlast_known : Ms :=
  (mSeq (mFor (iRg fRg3 (aCons (mOp fSub (mVar 1) (mC (.int 1))) (aCons (mUn fNeg (mC (.int 1))) (aCons (mUn fNeg (mC (.int 1))) aNil)))) (gN 2)
    mlast_known_b1)
  (mRet (mC .non)))
noncomputable def flast_known : FnL := runB 2 3 mlast_known
theorem oklast_known {P : Program} {w : World} {K : PySem.W.Frag} {mg : Str → Option Value} {base : Heap} {fa : Addr} {fd : FuncData} (B : Bi mg) (F : FnP K "last_known" slast_known fa fd) (g : mg "last_known" = some (.ref fa)) :
    DefOk P w K mg base 1 "last_known" ["known", "tick"] flast_known :=
  okDef (N := ["known", "tick", "one"]) F g sclast_known (fun _ _ _ _ _ _ us hl => match us, hl with | [_, _], _ => rfl) fun cdv A outer s H E hr =>
    (fss_cons (fs_for PassesOwn.never rfl (fi_range3 (by rfl) B.b_range (fa_cons (fe_op op_subF (fv 1) fe_int) (fa_cons (fe_un un_negF fe_int) (fa_cons (fe_un un_negF fe_int) fa_nil)))) (fg_name (i := 2) sclast_known.nd rfl (.inl rfl)) (fss_one (fs_if (ft_in (hu_of hr) (fv 2) (fv 0)) (fss_one (fs_ret (fv 2))) fss_nil)))
    (fss_one (fs_ret fe_non)))

abbrev sguess_of : Stmt := topS 7
abbrev Nguess_of : List Str := ["table", "known", "tick", "last"]
theorem scguess_of : FnScope ["table", "known", "tick", "last"] ["table", "known", "tick"] (defScope sguess_of) := ⟨rfl, rfl, rfl, by decide +kernel, rfl, by decide +kernel, by decide +kernel⟩
noncomputable def mguess_of : Ms :=
  (mSeq (mSet 3 (mL flast_known (aCons (mVar 1) (aCons (mVar 2) aNil))))
  (mSeq (mIfS (mTest (mOp (fIs false) (mVar 3) (mC .non))) (mRet (mOp fSub_ (mVar 0) (mC (.int 0)))) mNext)
  (mRet (mOp fSub_ (mVar 0) (mOp fMod (mOp fSub_ (mVar 1) (mVar 3)) (mL fLen (aCons (mVar 0) aNil)))))))
noncomputable def fguess_of : FnL := runB 3 4 mguess_of
theorem okguess_of {P : Program} {w : World} {K : PySem.W.Frag} {mg : Str → Option Value} {base : Heap} {fa : Addr} {fd : FuncData} (B : Bi mg) (F : FnP K "guess_of" sguess_of fa fd) (g : mg "guess_of" = some (.ref fa)) (Dlast_known : DefOk P w K mg base 1 "last_known" ["known", "tick"] flast_known) :
    DefOk P w K mg base 2 "guess_of" ["table", "known", "tick"] fguess_of :=
  okDef (N := ["table", "known", "tick", "last"]) F g scguess_of (fun _ _ _ _ _ _ us hl => match us, hl with | [_, _, _], _ => rfl) fun cdv A outer s H E hr =>
    (fss_cons (fs_set (i := 3) scguess_of.nd rfl (.inl rfl) (fe_callD Dlast_known hr (by rfl) (fa_cons (fv 1) (fa_cons (fv 2) fa_nil))))
    (fss_cons (fs_if (ft_cmp op_isF (fv 3) fe_non (nomark _)) (fss_one (fs_ret (fe_sub (hu_of hr) (fv 0) fe_int (fun _ _ => rfl)))) fss_nil)
    (fss_one (fs_ret (fe_sub (hu_of hr) (fv 0) (fe_op op_modF (fe_sub (hu_of hr) (fv 1) (fv 3) (fun _ _ => rfl)) (fe_callB call_lenF (by rfl) B.b_len (by decide +kernel) (fa_cons (fv 0) fa_nil))) (fun _ _ => rfl))))))

abbrev s_law_draw : Stmt := topS 10
abbrev N_law_draw : List Str := ["d", "many", "found", "size", "cell"]
theorem sc_law_draw : FnScope ["d", "many", "found", "size", "cell"] ["d", "many"] (defScope s_law_draw) := ⟨rfl, rfl, rfl, by decide +kernel, rfl, by decide +kernel, by decide +kernel⟩
noncomputable def m_law_draw : Ms :=
  (mSeq (mIfS (mTest (mOp fGt (mOp fSub_ (mVar 0) (mC (.int 2))) (mC (.int 0)))) (mSeq (mSet 2 (mOp fSub_ (mVar 0) (mC (.int 2))))
  (mSeq (mAsg (mOp fDiv (mVar 2) (mVar 1)) (gSb fSet_ (mVar 0) (mC (.int 2))))
  (mRet (mOp fMod (mL fInt (aCons (mVar 2) aNil)) (mVar 1))))) mNext)
  (mSeq (mSet 3 (mC (.int 0)))
  (mSeq (mIfS (mTest (mOp fLt (mOp fSub_ (mVar 0) (mC (.int 1))) (mL fLen (aCons (mOp fSub_ (mVar 0) (mC (.int 0))) aNil)))) (mSeq (mSet 4 (mOp fSub_ (mOp fSub_ (mVar 0) (mC (.int 0))) (mOp fSub_ (mVar 0) (mC (.int 1)))))
  (mSet 3 (mOp fAdd (mOp fMul (mC (.int 2)) (mL fAbs (aCons (mVar 4) aNil))) (mL fInt (aCons (mOp fLt (mVar 4) (mC (.int 0))) aNil))))) mNext)
  (mSeq (mAugS fGet_ fIpAdd fSet_ (mVar 0) (mC (.int 1)) (mC (.int 1)))
  (mSeq (mIfS (mTest (mOp fGe (mVar 3) (mOp fMul (mC (.int 2)) (mOp fPow (mC (.int 10)) (mC (.int 18)))))) (mSeq (mSet 2 (mOp fMod (mL fInt (aCons (mOp fDiv (mVar 3) (mC (.int 2))) aNil)) (mOp fShl (mC (.int 1)) (mC (.int 6000)))))
  (mSeq (mAsg (mOp fDiv (mVar 2) (mVar 1)) (gSb fSet_ (mVar 0) (mC (.int 2))))
  (mRet (mOp fMod (mL fInt (aCons (mVar 2) aNil)) (mVar 1))))) mNext)
  (mSeq (mAsg (mOp fMod (mL fInt (aCons (mOp fAdd (mOp fAdd (mOp fAdd (mOp fMul (mOp fSub_ (mVar 0) (mC (.int 3))) (mC (.int 48271))) (mOp fMul (mOp fMod (mL fInt (aCons (mVar 3) aNil)) (mC (.int 2147483629))) (mC (.int 16807)))) (mOp fMul (mOp fSub_ (mVar 0) (mC (.int 1))) (mC (.int 69621)))) (mC (.int 13))) aNil)) (mC (.int 2147483647))) (gSb fSet_ (mVar 0) (mC (.int 3))))
  (mRet (mOp fMod (mL fInt (aCons (mOp fDiv (mOp fSub_ (mVar 0) (mC (.int 3))) (mC (.int 16))) aNil)) (mVar 1)))))))))
noncomputable def f_law_draw : FnL := runB 2 5 m_law_draw
theorem ok_law_draw {P : Program} {w : World} {K : PySem.W.Frag} {mg : Str → Option Value} {base : Heap} {fa : Addr} {fd : FuncData} (B : Bi mg) (F : FnP K "_law_draw" s_law_draw fa fd) (g : mg "_law_draw" = some (.ref fa)) :
    DefOk P w K mg base 1 "_law_draw" ["d", "many"] f_law_draw :=
  okDef (N := ["d", "many", "found", "size", "cell"]) F g sc_law_draw (fun _ _ _ _ _ _ us hl => match us, hl with | [_, _], _ => rfl) fun cdv A outer s H E hr =>
    (fss_cons (fs_if (ft_cmp op_gtF (fe_sub (hu_of hr) (fv 0) fe_int (fun _ _ => rfl)) fe_int (nomark _)) (fss_cons (fs_set (i := 2) sc_law_draw.nd rfl (.inl rfl) (fe_sub (hu_of hr) (fv 0) fe_int (fun _ _ => rfl)))
    (fss_cons (fs_asg (fe_op op_divF (fv 2) (fv 1)) (fg_sub (fv 0) fe_int (setF (hu_of hr))))
    (fss_one (fs_ret (fe_op op_modF (fe_callTy call_intF (by rfl) B.b_int (by decide +kernel) (fa_cons (fv 2) fa_nil)) (fv 1)))))) fss_nil)
    (fss_cons (fs_set (i := 3) sc_law_draw.nd rfl (.inl rfl) fe_int)
    (fss_cons (fs_if (ft_cmp op_ltF (fe_sub (hu_of hr) (fv 0) fe_int (fun _ _ => rfl)) (fe_callB call_lenF (by rfl) B.b_len (by decide +kernel) (fa_cons (fe_sub (hu_of hr) (fv 0) fe_int (fun _ _ => rfl)) fa_nil)) (nomark _)) (fss_cons (fs_set (i := 4) sc_law_draw.nd rfl (.inl rfl) (fe_sub (hu_of hr) (fe_sub (hu_of hr) (fv 0) fe_int (fun _ _ => rfl)) (fe_sub (hu_of hr) (fv 0) fe_int (fun _ _ => rfl)) (fun _ _ => rfl)))
    (fss_one (fs_set (i := 3) sc_law_draw.nd rfl (.inl rfl) (fe_op op_addF (fe_op op_mulF fe_int (fe_callB call_absF (by rfl) B.b_abs (by decide +kernel) (fa_cons (fv 4) fa_nil))) (fe_callTy call_intF (by rfl) B.b_int (by decide +kernel) (fa_cons (fe_cmp op_ltF (fv 4) fe_int (nomark _)) fa_nil)))))) fss_nil)
    (fss_cons (fs_augS (fv 0) fe_int (getF (hu_of hr)) fe_int ip_addF (setF (hu_of hr)))
    (fss_cons (fs_if (ft_cmp op_geF (fv 3) (fe_op op_mulF fe_int (fe_op op_powF fe_int fe_int)) (nomark _)) (fss_cons (fs_set (i := 2) sc_law_draw.nd rfl (.inl rfl) (fe_op op_modF (fe_callTy call_intF (by rfl) B.b_int (by decide +kernel) (fa_cons (fe_op op_divF (fv 3) fe_int) fa_nil)) (fe_op op_shlF fe_int fe_int)))
    (fss_cons (fs_asg (fe_op op_divF (fv 2) (fv 1)) (fg_sub (fv 0) fe_int (setF (hu_of hr))))
    (fss_one (fs_ret (fe_op op_modF (fe_callTy call_intF (by rfl) B.b_int (by decide +kernel) (fa_cons (fv 2) fa_nil)) (fv 1)))))) fss_nil)
    (fss_cons (fs_asg (fe_op op_modF (fe_callTy call_intF (by rfl) B.b_int (by decide +kernel) (fa_cons (fe_op op_addF (fe_op op_addF (fe_op op_addF (fe_op op_mulF (fe_sub (hu_of hr) (fv 0) fe_int (fun _ _ => rfl)) fe_int) (fe_op op_mulF (fe_op op_modF (fe_callTy call_intF (by rfl) B.b_int (by decide +kernel) (fa_cons (fv 3) fa_nil)) fe_int) fe_int)) (fe_op op_mulF (fe_sub (hu_of hr) (fv 0) fe_int (fun _ _ => rfl)) fe_int)) fe_int) fa_nil)) fe_int) (fg_sub (fv 0) fe_int (setF (hu_of hr))))
    (fss_one (fs_ret (fe_op op_modF (fe_callTy call_intF (by rfl) B.b_int (by decide +kernel) (fa_cons (fe_op op_divF (fe_sub (hu_of hr) (fv 0) fe_int (fun _ _ => rfl)) fe_int) fa_nil)) (fv 1))))))))))

abbrev s_law_pick : Stmt := topS 11
abbrev N_law_pick : List Str := ["d", "row"]
theorem sc_law_pick : FnScope ["d", "row"] ["d", "row"] (defScope s_law_pick) := ⟨rfl, rfl, rfl, by decide +kernel, rfl, by decide +kernel, by decide +kernel⟩
noncomputable def m_law_pick : Ms :=
  (mRet (mOp fSub_ (mVar 1) (mL f_law_draw (aCons (mVar 0) (aCons (mL fLen (aCons (mVar 1) aNil)) aNil)))))
noncomputable def f_law_pick : FnL := runB 2 2 m_law_pick
theorem ok_law_pick {P : Program} {w : World} {K : PySem.W.Frag} {mg : Str → Option Value} {base : Heap} {fa : Addr} {fd : FuncData} (B : Bi mg) (F : FnP K "_law_pick" s_law_pick fa fd) (g : mg "_law_pick" = some (.ref fa)) (D_law_draw : DefOk P w K mg base 1 "_law_draw" ["d", "many"] f_law_draw) :
    DefOk P w K mg base 2 "_law_pick" ["d", "row"] f_law_pick :=
  okDef (N := ["d", "row"]) F g sc_law_pick (fun _ _ _ _ _ _ us hl => match us, hl with | [_, _], _ => rfl) fun cdv A outer s H E hr =>
    (fss_one (fs_ret (fe_sub (hu_of hr) (fv 1) (fe_callD D_law_draw hr (by rfl) (fa_cons (fv 0) (fa_cons (fe_callB call_lenF (by rfl) B.b_len (by decide +kernel) (fa_cons (fv 1) fa_nil)) fa_nil))) (fun _ _ => rfl))))

abbrev s_law_is_int : Stmt := topS 12
abbrev N_law_is_int : List Str := ["thing"]
theorem sc_law_is_int : FnScope ["thing"] ["thing"] (defScope s_law_is_int) := ⟨rfl, rfl, rfl, by decide +kernel, rfl, by decide +kernel, by decide +kernel⟩
noncomputable def m_law_is_int : Ms :=
  (mRet (mAndV (mL fIsi (aCons (mVar 0) (aCons (mC (.ty "int")) aNil))) (mNotV (mL fIsi (aCons (mVar 0) (aCons (mC (.ty "bool")) aNil))))))
noncomputable def f_law_is_int : FnL := runB 1 1 m_law_is_int
theorem ok_law_is_int {P : Program} {w : World} {K : PySem.W.Frag} {mg : Str → Option Value} {base : Heap} {fa : Addr} {fd : FuncData} (B : Bi mg) (F : FnP K "_law_is_int" s_law_is_int fa fd) (g : mg "_law_is_int" = some (.ref fa)) :
    DefOk P w K mg base 1 "_law_is_int" ["thing"] f_law_is_int :=
  okDef (N := ["thing"]) F g sc_law_is_int (fun _ _ _ _ _ _ us hl => match us, hl with | [_], _ => rfl) fun cdv A outer s H E hr =>
    (fss_one (fs_ret (fe_and (fe_callB call_isiF (by rfl) B.b_isinstance (by decide +kernel) (fa_cons (fv 0) (fa_cons (fe_ty (by rfl) B.b_int (by decide +kernel)) fa_nil))) (fe_one (fe_not (fe_callB call_isiF (by rfl) B.b_isinstance (by decide +kernel) (fa_cons (fv 0) (fa_cons (fe_ty (by rfl) B.b_bool (by decide +kernel)) fa_nil))))))))

abbrev s_law_is_ints : Stmt := topS 13
abbrev N_law_is_ints : List Str := ["row", "part"]
theorem sc_law_is_ints : FnScope ["row", "part"] ["row"] (defScope s_law_is_ints) := ⟨rfl, rfl, rfl, by decide +kernel, rfl, by decide +kernel, by decide +kernel⟩
noncomputable def m_law_is_ints : Ms :=
  (mRet (mAndV (mL fIsi (aCons (mVar 0) (aCons (mC (.ty "tuple")) aNil))) (mL fAll (aCons (mComp (mIt (mVar 0)) (gN 1) mYes (mL f_law_is_int (aCons (mVar 1) aNil)) [1]) aNil))))
noncomputable def f_law_is_ints : FnL := runB 1 2 m_law_is_ints
theorem ok_law_is_ints {P : Program} {w : World} {K : PySem.W.Frag} {mg : Str → Option Value} {base : Heap} {fa : Addr} {fd : FuncData} (B : Bi mg) (F : FnP K "_law_is_ints" s_law_is_ints fa fd) (g : mg "_law_is_ints" = some (.ref fa)) (D_law_is_int : DefOk P w K mg base 1 "_law_is_int" ["thing"] f_law_is_int) :
    DefOk P w K mg base 2 "_law_is_ints" ["row"] f_law_is_ints :=
  okDef (N := ["row", "part"]) F g sc_law_is_ints (fun _ _ _ _ _ _ us hl => match us, hl with | [_], _ => rfl) fun cdv A outer s H E hr =>
    (fss_one (fs_ret (fe_and (fe_callB call_isiF (by rfl) B.b_isinstance (by decide +kernel) (fa_cons (fv 0) (fa_cons (fe_ty (by rfl) B.b_tuple (by decide +kernel)) fa_nil))) (fe_one (fe_callB (call_allF rfl) (by rfl) B.b_all (by decide +kernel) (fa_cons (fe_lc (own := [("part", 1)]) (g := (gN 1)) (t := mYes) rfl sc_law_is_ints.nd (fi_any (fv 0)) (blkOk_by (N := N_law_is_ints) (sc := defScope s_law_is_ints) (by decide +kernel)) (fun _ _ _ _ _ => (fg_name (i := 1) sc_law_is_ints.nd rfl (.inl rfl))) (fun _ _ _ _ _ => fts_nil) (fun _ _ _ _ _ => (fe_callD D_law_is_int hr (by rfl) (fa_cons (fv 1) fa_nil)))) fa_nil))))))

abbrev s_law_known_key : Stmt := topS 14
abbrev N_law_known_key : List Str := ["row", "tick", "late"]
theorem sc_law_known_key : FnScope ["row", "tick", "late"] ["row", "tick", "late"] (defScope s_law_known_key) := ⟨rfl, rfl, rfl, by decide +kernel, rfl, by decide +kernel, by decide +kernel⟩
noncomputable def m_law_known_key : Ms :=
  (mSeq (mIfS (mTest (mOp fGe (mVar 1) (mVar 2))) (mRet (mOp fSub_ (mVar 0) (mOp fSub (mVar 1) (mVar 2)))) mNext)
  (mRet (mC (.int 0))))
noncomputable def f_law_known_key : FnL := runB 3 3 m_law_known_key
theorem ok_law_known_key {P : Program} {w : World} {K : PySem.W.Frag} {mg : Str → Option Value} {base : Heap} {fa : Addr} {fd : FuncData} (B : Bi mg) (F : FnP K "_law_known_key" s_law_known_key fa fd) (g : mg "_law_known_key" = some (.ref fa)) :
    DefOk P w K mg base 1 "_law_known_key" ["row", "tick", "late"] f_law_known_key :=
  okDef (N := ["row", "tick", "late"]) F g sc_law_known_key (fun _ _ _ _ _ _ us hl => match us, hl with | [_, _, _], _ => rfl) fun cdv A outer s H E hr =>
    (fss_cons (fs_if (ft_cmp op_geF (fv 1) (fv 2) (nomark _)) (fss_one (fs_ret (fe_sub (hu_of hr) (fv 0) (fe_op op_subF (fv 1) (fv 2)) (fun _ _ => rfl)))) fss_nil)
    (fss_one (fs_ret fe_int)))

abbrev s_law_wrong : Stmt := topS 15
abbrev N_law_wrong : List Str := ["table", "rows", "late", "found", "row", "tick"]
theorem sc_law_wrong : FnScope ["table", "rows", "late", "found", "row", "tick"] ["table", "rows", "late"] (defScope s_law_wrong) := ⟨rfl, rfl, rfl, by decide +kernel, rfl, by decide +kernel, by decide +kernel⟩
noncomputable def m_law_wrong_b1 : Ms :=
  (mIfS (mTest (mOp fNe (mOp fSub_ (mVar 0) (mL f_law_known_key (aCons (mVar 4) (aCons (mVar 5) (aCons (mVar 2) aNil))))) (mOp fSub_ (mVar 4) (mVar 5)))) (mAug 3 fIpAdd (mC (.int 1))) mNext)
noncomputable def m_law_wrong_b2 : Ms :=
  (mFor (iRg fRg1 (aCons (mL fLen (aCons (mVar 4) aNil)) aNil)) (gN 5)
    m_law_wrong_b1)
noncomputable def m_law_wrong : Ms :=
  (mSeq (mSet 3 (mC (.int 0)))
  (mSeq (mFor (mIt (mVar 1)) (gN 4)
    m_law_wrong_b2)
  (mRet (mVar 3))))
noncomputable def f_law_wrong : FnL := runB 3 6 m_law_wrong
theorem ok_law_wrong {P : Program} {w : World} {K : PySem.W.Frag} {mg : Str → Option Value} {base : Heap} {fa : Addr} {fd : FuncData} (B : Bi mg) (F : FnP K "_law_wrong" s_law_wrong fa fd) (g : mg "_law_wrong" = some (.ref fa)) (D_law_known_key : DefOk P w K mg base 1 "_law_known_key" ["row", "tick", "late"] f_law_known_key) :
    DefOk P w K mg base 2 "_law_wrong" ["table", "rows", "late"] f_law_wrong :=
  okDef (N := ["table", "rows", "late", "found", "row", "tick"]) F g sc_law_wrong (fun _ _ _ _ _ _ us hl => match us, hl with | [_, _, _], _ => rfl) fun cdv A outer s H E hr =>
    (fss_cons (fs_set (i := 3) sc_law_wrong.nd rfl (.inl rfl) fe_int)
    (fss_cons (fs_for PassesOwn.never rfl (fi_any (fv 1)) (fg_name (i := 4) sc_law_wrong.nd rfl (.inl rfl)) (fss_one (fs_for PassesOwn.never rfl (fi_range1 (by rfl) B.b_range (fa_cons (fe_callB call_lenF (by rfl) B.b_len (by decide +kernel) (fa_cons (fv 4) fa_nil)) fa_nil)) (fg_name (i := 5) sc_law_wrong.nd rfl (.inl rfl)) (fss_one (fs_if (ft_cmp (op_neF hr.units) (fe_sub (hu_of hr) (fv 0) (fe_callD D_law_known_key hr (by rfl) (fa_cons (fv 4) (fa_cons (fv 5) (fa_cons (fv 2) fa_nil)))) (fun _ _ => rfl)) (fe_sub (hu_of hr) (fv 4) (fv 5) (fun _ _ => rfl)) (nomark _)) (fss_one (fs_aug (i := 3) sc_law_wrong.nd rfl (.inl rfl) fe_int ip_addF)) fss_nil)))))
    (fss_one (fs_ret (fv 3)))))

abbrev s_law_tables : Stmt := topS 16
abbrev N_law_tables : List Str := ["many", "rows", "entry", "wider", "row", "key"]
theorem sc_law_tables : FnScope ["many", "rows", "entry", "wider", "row", "key"] ["many"] (defScope s_law_tables) := ⟨rfl, rfl, rfl, by decide +kernel, rfl, by decide +kernel, by decide +kernel⟩
noncomputable def m_law_tables_b1 : Ms :=
  (mDrop (mBM "list" fApp (mVar 3) (aCons (mOp fAdd (mVar 4) (mL fTup (aCons (mVar 5) aNil))) aNil)))
noncomputable def m_law_tables_b2 : Ms :=
  (mFor (iRg fRg1 (aCons (mVar 0) aNil)) (gN 5)
    m_law_tables_b1)
noncomputable def m_law_tables_b3 : Ms :=
  (mSeq (mSet 3 (mL fLst aNil))
  (mSeq (mFor (mIt (mVar 1)) (gN 4)
    m_law_tables_b2)
  (mSet 1 (mVar 3))))
noncomputable def m_law_tables : Ms :=
  (mSeq (mSet 1 (mL fLst (aCons (mL fTup aNil) aNil)))
  (mSeq (mFor (iRg fRg1 (aCons (mVar 0) aNil)) (gN 2)
    m_law_tables_b3)
  (mRet (mVar 1))))
noncomputable def f_law_tables : FnL := runB 1 6 m_law_tables
theorem ok_law_tables {P : Program} {w : World} {K : PySem.W.Frag} {mg : Str → Option Value} {base : Heap} {fa : Addr} {fd : FuncData} (B : Bi mg) (F : FnP K "_law_tables" s_law_tables fa fd) (g : mg "_law_tables" = some (.ref fa)) :
    DefOk P w K mg base 1 "_law_tables" ["many"] f_law_tables :=
  okDef (N := ["many", "rows", "entry", "wider", "row", "key"]) F g sc_law_tables (fun _ _ _ _ _ _ us hl => match us, hl with | [_], _ => rfl) fun cdv A outer s H E hr =>
    (fss_cons (fs_set (i := 1) sc_law_tables.nd rfl (.inl rfl) (fe_lst (fa_cons (fe_tup fa_nil) fa_nil)))
    (fss_cons (fs_for PassesOwn.never rfl (fi_range1 (by rfl) B.b_range (fa_cons (fv 0) fa_nil)) (fg_name (i := 2) sc_law_tables.nd rfl (.inl rfl)) (fss_cons (fs_set (i := 3) sc_law_tables.nd rfl (.inl rfl) (fe_lst fa_nil))
    (fss_cons (fs_for PassesOwn.never rfl (fi_any (fv 1)) (fg_name (i := 4) sc_law_tables.nd rfl (.inl rfl)) (fss_one (fs_for PassesOwn.never rfl (fi_range1 (by rfl) B.b_range (fa_cons (fv 0) fa_nil)) (fg_name (i := 5) sc_law_tables.nd rfl (.inl rfl)) (fss_one (fs_expr (fe_bm PySem.F.plainAttrs_list PySem.F.slot_list_append PySem.F.type_list_append mt_appF (fv 3) (fa_cons (fe_op op_addF (fv 4) (fe_tup (fa_cons (fv 5) fa_nil))) fa_nil)))))))
    (fss_one (fs_set (i := 1) sc_law_tables.nd rfl (.inl rfl) (fv 3))))))
    (fss_one (fs_ret (fv 1)))))

abbrev s_law_keys_row : Stmt := topS 17
abbrev N_law_keys_row : List Str := ["d", "size", "many", "rule", "by", "noise", "row", "tick"]
theorem sc_law_keys_row : FnScope ["d", "size", "many", "rule", "by", "noise", "row", "tick"] ["d", "size", "many", "rule", "by", "noise"] (defScope s_law_keys_row) := ⟨rfl, rfl, rfl, by decide +kernel, rfl, by decide +kernel, by decide +kernel⟩
noncomputable def m_law_keys_row_b1 : Ms :=
  (mIfS (mTest (mOp fEq (mL f_law_draw (aCons (mVar 0) (aCons (mVar 5) aNil))) (mC (.int 0)))) (mDrop (mBM "list" fApp (mVar 6) (aCons (mL f_law_draw (aCons (mVar 0) (aCons (mVar 2) aNil))) aNil))) (mDrop (mBM "list" fApp (mVar 6) (aCons (mOp fSub_ (mVar 3) (mL f_law_known_key (aCons (mVar 6) (aCons (mVar 7) (aCons (mVar 4) aNil))))) aNil))))
noncomputable def m_law_keys_row : Ms :=
  (mSeq (mSet 6 (mL fLst aNil))
  (mSeq (mFor (iRg fRg1 (aCons (mVar 1) aNil)) (gN 7)
    m_law_keys_row_b1)
  (mRet (mL fTupOf (aCons (mVar 6) aNil)))))
noncomputable def f_law_keys_row : FnL := runB 6 8 m_law_keys_row
theorem ok_law_keys_row {P : Program} {w : World} {K : PySem.W.Frag} {mg : Str → Option Value} {base : Heap} {fa : Addr} {fd : FuncData} (B : Bi mg) (F : FnP K "_law_keys_row" s_law_keys_row fa fd) (g : mg "_law_keys_row" = some (.ref fa)) (D_law_draw : DefOk P w K mg base 1 "_law_draw" ["d", "many"] f_law_draw) (D_law_known_key : DefOk P w K mg base 1 "_law_known_key" ["row", "tick", "late"] f_law_known_key) :
    DefOk P w K mg base 2 "_law_keys_row" ["d", "size", "many", "rule", "by", "noise"] f_law_keys_row :=
  okDef (N := ["d", "size", "many", "rule", "by", "noise", "row", "tick"]) F g sc_law_keys_row (fun _ _ _ _ _ _ us hl => match us, hl with | [_, _, _, _, _, _], _ => rfl) fun cdv A outer s H E hr =>
    (fss_cons (fs_set (i := 6) sc_law_keys_row.nd rfl (.inl rfl) (fe_lst fa_nil))
    (fss_cons (fs_for PassesOwn.never rfl (fi_range1 (by rfl) B.b_range (fa_cons (fv 1) fa_nil)) (fg_name (i := 7) sc_law_keys_row.nd rfl (.inl rfl)) (fss_one (fs_if (ft_cmp (op_eqF hr.units) (fe_callD D_law_draw hr (by rfl) (fa_cons (fv 0) (fa_cons (fv 5) fa_nil))) fe_int (nomark _)) (fss_one (fs_expr (fe_bm PySem.F.plainAttrs_list PySem.F.slot_list_append PySem.F.type_list_append mt_appF (fv 6) (fa_cons (fe_callD D_law_draw hr (by rfl) (fa_cons (fv 0) (fa_cons (fv 2) fa_nil))) fa_nil)))) (fss_one (fs_expr (fe_bm PySem.F.plainAttrs_list PySem.F.slot_list_append PySem.F.type_list_append mt_appF (fv 6) (fa_cons (fe_sub (hu_of hr) (fv 3) (fe_callD D_law_known_key hr (by rfl) (fa_cons (fv 6) (fa_cons (fv 7) (fa_cons (fv 4) fa_nil)))) (fun _ _ => rfl)) fa_nil)))))))
    (fss_one (fs_ret (fe_callTy call_tupF (by rfl) B.b_tuple (by decide +kernel) (fa_cons (fv 6) fa_nil))))))

abbrev s_law_record : Stmt := topS 18
abbrev N_law_record : List Str := ["d", "seats", "many", "late", "rule", "by", "noise", "size", "uneven", "rows", "seat", "length", "key"]
theorem sc_law_record : FnScope ["d", "seats", "many", "late", "rule", "by", "noise", "size", "uneven", "rows", "seat", "length", "key"] ["d", "seats", "many", "late"] (defScope s_law_record) := ⟨rfl, rfl, rfl, by decide +kernel, rfl, by decide +kernel, by decide +kernel⟩
noncomputable def m_law_record_b1 : Ms :=
  (mSeq (mSet 11 (mVar 7))
  (mSeq (mIfS (mTest (mVar 8)) (mSet 11 (mL f_law_draw (aCons (mVar 0) (aCons (mOp fAdd (mVar 7) (mC (.int 1))) aNil)))) mNext)
  (mDrop (mBM "list" fApp (mVar 9) (aCons (mL f_law_keys_row (aCons (mVar 0) (aCons (mVar 11) (aCons (mVar 2) (aCons (mVar 4) (aCons (mVar 5) (aCons (mVar 6) aNil))))))) aNil)))))
noncomputable def m_law_record : Ms :=
  (mSeq (mSet 4 (mL fTupOf (aCons (mComp (iRg fRg1 (aCons (mVar 2) aNil)) (gN 12) mYes (mL f_law_draw (aCons (mVar 0) (aCons (mVar 2) aNil))) [12]) aNil)))
  (mSeq (mSet 5 (mL f_law_pick (aCons (mVar 0) (aCons (mL fLst (aCons (mVar 3) (aCons (mVar 3) (aCons (mC (.int 1)) (aCons (mC (.int 2)) aNil))))) aNil))))
  (mSeq (mSet 6 (mL f_law_pick (aCons (mVar 0) (aCons (mL fLst (aCons (mC (.int 1)) (aCons (mC (.int 2)) (aCons (mC (.int 4)) (aCons (mC (.int 9)) aNil))))) aNil))))
  (mSeq (mSet 7 (mL f_law_pick (aCons (mVar 0) (aCons (mL fLst (aCons (mC (.int 1)) (aCons (mC (.int 2)) (aCons (mC (.int 3)) (aCons (mC (.int 5)) (aCons (mC (.int 8)) (aCons (mC (.int 12)) (aCons (mC (.int 24)) (aCons (mC (.int 0)) aNil))))))))) aNil))))
  (mSeq (mSet 8 (mOp fEq (mL f_law_draw (aCons (mVar 0) (aCons (mC (.int 4)) aNil))) (mC (.int 0))))
  (mSeq (mSet 9 (mL fLst aNil))
  (mSeq (mFor (iRg fRg1 (aCons (mVar 1) aNil)) (gN 10)
    m_law_record_b1)
  (mRet (mL fTupOf (aCons (mVar 9) aNil))))))))))
noncomputable def f_law_record : FnL := runB 4 13 m_law_record
theorem ok_law_record {P : Program} {w : World} {K : PySem.W.Frag} {mg : Str → Option Value} {base : Heap} {fa : Addr} {fd : FuncData} (B : Bi mg) (F : FnP K "_law_record" s_law_record fa fd) (g : mg "_law_record" = some (.ref fa)) (D_law_draw : DefOk P w K mg base 1 "_law_draw" ["d", "many"] f_law_draw) (D_law_pick : DefOk P w K mg base 2 "_law_pick" ["d", "row"] f_law_pick) (D_law_keys_row : DefOk P w K mg base 2 "_law_keys_row" ["d", "size", "many", "rule", "by", "noise"] f_law_keys_row) :
    DefOk P w K mg base 3 "_law_record" ["d", "seats", "many", "late"] f_law_record :=
  okDef (N := ["d", "seats", "many", "late", "rule", "by", "noise", "size", "uneven", "rows", "seat", "length", "key"]) F g sc_law_record (fun _ _ _ _ _ _ us hl => match us, hl with | [_, _, _, _], _ => rfl) fun cdv A outer s H E hr =>
    (fss_cons (fs_set (i := 4) sc_law_record.nd rfl (.inl rfl) (fe_callTy call_tupF (by rfl) B.b_tuple (by decide +kernel) (fa_cons (fe_lc (own := [("key", 12)]) (g := (gN 12)) (t := mYes) rfl sc_law_record.nd (fi_range1 (by rfl) B.b_range (fa_cons (fv 2) fa_nil)) (blkOk_by (N := N_law_record) (sc := defScope s_law_record) (by decide +kernel)) (fun _ _ _ _ _ => (fg_name (i := 12) sc_law_record.nd rfl (.inl rfl))) (fun _ _ _ _ _ => fts_nil) (fun _ _ _ _ _ => (fe_callD D_law_draw hr (by rfl) (fa_cons (fv 0) (fa_cons (fv 2) fa_nil))))) fa_nil)))
    (fss_cons (fs_set (i := 5) sc_law_record.nd rfl (.inl rfl) (fe_callD D_law_pick hr (by rfl) (fa_cons (fv 0) (fa_cons (fe_lst (fa_cons (fv 3) (fa_cons (fv 3) (fa_cons fe_int (fa_cons fe_int fa_nil))))) fa_nil))))
    (fss_cons (fs_set (i := 6) sc_law_record.nd rfl (.inl rfl) (fe_callD D_law_pick hr (by rfl) (fa_cons (fv 0) (fa_cons (fe_lst (fa_cons fe_int (fa_cons fe_int (fa_cons fe_int (fa_cons fe_int fa_nil))))) fa_nil))))
    (fss_cons (fs_set (i := 7) sc_law_record.nd rfl (.inl rfl) (fe_callD D_law_pick hr (by rfl) (fa_cons (fv 0) (fa_cons (fe_lst (fa_cons fe_int (fa_cons fe_int (fa_cons fe_int (fa_cons fe_int (fa_cons fe_int (fa_cons fe_int (fa_cons fe_int (fa_cons fe_int fa_nil))))))))) fa_nil))))
    (fss_cons (fs_set (i := 8) sc_law_record.nd rfl (.inl rfl) (fe_cmp (op_eqF hr.units) (fe_callD D_law_draw hr (by rfl) (fa_cons (fv 0) (fa_cons fe_int fa_nil))) fe_int (nomark _)))
    (fss_cons (fs_set (i := 9) sc_law_record.nd rfl (.inl rfl) (fe_lst fa_nil))
    (fss_cons (fs_for PassesOwn.never rfl (fi_range1 (by rfl) B.b_range (fa_cons (fv 1) fa_nil)) (fg_name (i := 10) sc_law_record.nd rfl (.inl rfl)) (fss_cons (fs_set (i := 11) sc_law_record.nd rfl (.inl rfl) (fv 7))
    (fss_cons (fs_if (ft_val (fv 8)) (fss_one (fs_set (i := 11) sc_law_record.nd rfl (.inl rfl) (fe_callD D_law_draw hr (by rfl) (fa_cons (fv 0) (fa_cons (fe_op op_addF (fv 7) fe_int) fa_nil))))) fss_nil)
    (fss_one (fs_expr (fe_bm PySem.F.plainAttrs_list PySem.F.slot_list_append PySem.F.type_list_append mt_appF (fv 9) (fa_cons (fe_callD D_law_keys_row hr (by rfl) (fa_cons (fv 0) (fa_cons (fv 11) (fa_cons (fv 2) (fa_cons (fv 4) (fa_cons (fv 5) (fa_cons (fv 6) fa_nil))))))) fa_nil)))))))
    (fss_one (fs_ret (fe_callTy call_tupF (by rfl) B.b_tuple (by decide +kernel) (fa_cons (fv 9) fa_nil)))))))))))

abbrev s_law_bent_table : Stmt := topS 19
abbrev N_law_bent_table : List Str := ["d", "table", "many", "at", "key"]
theorem sc_law_bent_table : FnScope ["d", "table", "many", "at", "key"] ["d", "table", "many"] (defScope s_law_bent_table) := ⟨rfl, rfl, rfl, by decide +kernel, rfl, by decide +kernel, by decide +kernel⟩
noncomputable def m_law_bent_table : Ms :=
  (mSeq (mSet 3 (mL f_law_draw (aCons (mVar 0) (aCons (mVar 2) aNil))))
  (mSeq (mSet 4 (mOp fMod (mL fInt (aCons (mOp fAdd (mOp fAdd (mOp fSub_ (mVar 1) (mVar 3)) (mC (.int 1))) (mL f_law_draw (aCons (mVar 0) (aCons (mOp fSub (mVar 2) (mC (.int 1))) aNil)))) aNil)) (mVar 2)))
  (mRet (mOp fAdd (mOp fAdd (mSl (mVar 1) mNoP (mP (mVar 3))) (mL fTup (aCons (mVar 4) aNil))) (mSl (mVar 1) (mP (mOp fAdd (mVar 3) (mC (.int 1)))) mNoP)))))
noncomputable def f_law_bent_table : FnL := runB 3 5 m_law_bent_table
theorem ok_law_bent_table {P : Program} {w : World} {K : PySem.W.Frag} {mg : Str → Option Value} {base : Heap} {fa : Addr} {fd : FuncData} (B : Bi mg) (F : FnP K "_law_bent_table" s_law_bent_table fa fd) (g : mg "_law_bent_table" = some (.ref fa)) (D_law_draw : DefOk P w K mg base 1 "_law_draw" ["d", "many"] f_law_draw) :
    DefOk P w K mg base 2 "_law_bent_table" ["d", "table", "many"] f_law_bent_table :=
  okDef (N := ["d", "table", "many", "at", "key"]) F g sc_law_bent_table (fun _ _ _ _ _ _ us hl => match us, hl with | [_, _, _], _ => rfl) fun cdv A outer s H E hr =>
    (fss_cons (fs_set (i := 3) sc_law_bent_table.nd rfl (.inl rfl) (fe_callD D_law_draw hr (by rfl) (fa_cons (fv 0) (fa_cons (fv 2) fa_nil))))
    (fss_cons (fs_set (i := 4) sc_law_bent_table.nd rfl (.inl rfl) (fe_op op_modF (fe_callTy call_intF (by rfl) B.b_int (by decide +kernel) (fa_cons (fe_op op_addF (fe_op op_addF (fe_sub (hu_of hr) (fv 1) (fv 3) (fun _ _ => rfl)) fe_int) (fe_callD D_law_draw hr (by rfl) (fa_cons (fv 0) (fa_cons (fe_op op_subF (fv 2) fe_int) fa_nil)))) fa_nil)) (fv 2)))
    (fss_one (fs_ret (fe_op op_addF (fe_op op_addF (fe_slice (fv 1) fp_none (fp_some (fv 3))) (fe_tup (fa_cons (fv 4) fa_nil))) (fe_slice (fv 1) (fp_some (fe_op op_addF (fv 3) fe_int)) fp_none))))))

abbrev s_law_guesses_right : Stmt := topS 20
abbrev N_law_guesses_right : List Str := ["table", "row", "late", "tick", "known", "one", "guess"]
theorem sc_law_guesses_right : FnScope ["table", "row", "late", "tick", "known", "one", "guess"] ["table", "row", "late"] (defScope s_law_guesses_right) := ⟨rfl, rfl, rfl, by decide +kernel, rfl, by decide +kernel, by decide +kernel⟩
noncomputable def m_law_guesses_right_b1 : Ms :=
  (mAsg (mOp fSub_ (mVar 1) (mVar 5)) (gSb fSet_ (mVar 4) (mVar 5)))
noncomputable def m_law_guesses_right_b2 : Ms :=
  (mSeq (mSet 4 mDnewK)
  (mSeq (mFor (iRg fRg1 (aCons (mOp fAdd (mOp fSub (mVar 3) (mVar 2)) (mC (.int 1))) aNil)) (gN 5)
    m_law_guesses_right_b1)
  (mSeq (mSet 6 (mL fguess_of (aCons (mVar 0) (aCons (mVar 4) (aCons (mVar 3) aNil)))))
  (mIfS (mOr (mNot (mTest (mL f_law_is_int (aCons (mVar 6) aNil)))) (mTest (mOp fNe (mVar 6) (mOp fSub_ (mVar 0) (mL f_law_known_key (aCons (mVar 1) (aCons (mVar 3) (aCons (mVar 2) aNil)))))))) (mRet (mC (.bl false))) mNext))))
noncomputable def m_law_guesses_right : Ms :=
  (mSeq (mFor (iRg fRg1 (aCons (mL fLen (aCons (mVar 1) aNil)) aNil)) (gN 3)
    m_law_guesses_right_b2)
  (mRet (mC (.bl true))))
noncomputable def f_law_guesses_right : FnL := runB 3 7 m_law_guesses_right
theorem ok_law_guesses_right {P : Program} {w : World} {K : PySem.W.Frag} {mg : Str → Option Value} {base : Heap} {fa : Addr} {fd : FuncData} (B : Bi mg) (F : FnP K "_law_guesses_right" s_law_guesses_right fa fd) (g : mg "_law_guesses_right" = some (.ref fa)) (Dguess_of : DefOk P w K mg base 2 "guess_of" ["table", "known", "tick"] fguess_of) (D_law_is_int : DefOk P w K mg base 1 "_law_is_int" ["thing"] f_law_is_int) (D_law_known_key : DefOk P w K mg base 1 "_law_known_key" ["row", "tick", "late"] f_law_known_key) :
    DefOk P w K mg base 3 "_law_guesses_right" ["table", "row", "late"] f_law_guesses_right :=
  okDef (N := ["table", "row", "late", "tick", "known", "one", "guess"]) F g sc_law_guesses_right (fun _ _ _ _ _ _ us hl => match us, hl with | [_, _, _], _ => rfl) fun cdv A outer s H E hr =>
    (fss_cons (fs_for PassesOwn.never rfl (fi_range1 (by rfl) B.b_range (fa_cons (fe_callB call_lenF (by rfl) B.b_len (by decide +kernel) (fa_cons (fv 1) fa_nil)) fa_nil)) (fg_name (i := 3) sc_law_guesses_right.nd rfl (.inl rfl)) (fss_cons (fs_set (i := 4) sc_law_guesses_right.nd rfl (.inl rfl) fe_dnewK)
    (fss_cons (fs_for PassesOwn.never rfl (fi_range1 (by rfl) B.b_range (fa_cons (fe_op op_addF (fe_op op_subF (fv 3) (fv 2)) fe_int) fa_nil)) (fg_name (i := 5) sc_law_guesses_right.nd rfl (.inl rfl)) (fss_one (fs_asg (fe_sub (hu_of hr) (fv 1) (fv 5) (fun _ _ => rfl)) (fg_sub (fv 4) (fv 5) (setF (hu_of hr))))))
    (fss_cons (fs_set (i := 6) sc_law_guesses_right.nd rfl (.inl rfl) (fe_callD Dguess_of hr (by rfl) (fa_cons (fv 0) (fa_cons (fv 4) (fa_cons (fv 3) fa_nil)))))
    (fss_one (fs_if (fw_pt (fw_or (ft_not (ft_val (fe_callD D_law_is_int hr (by rfl) (fa_cons (fv 6) fa_nil)))) (fw_or1 (ft_cmp (op_neF hr.units) (fv 6) (fe_sub (hu_of hr) (fv 0) (fe_callD D_law_known_key hr (by rfl) (fa_cons (fv 1) (fa_cons (fv 3) (fa_cons (fv 2) fa_nil)))) (fun _ _ => rfl)) (nomark _))))) (fss_one (fs_ret fe_bl)) fss_nil))))))
    (fss_one (fs_ret fe_bl)))
abbrev s_law_begin : Stmt := topS 9
theorem sc_law_begin : FnScope ["script", "cell"] ["script"] (defScope s_law_begin) := ⟨rfl, rfl, rfl, by decide +kernel, rfl, by decide +kernel, by decide +kernel⟩
theorem ok_law_begin {P : Program} {w : World} {K : PySem.W.Frag} {mg : Str → Option Value} {base : Heap} {fa : Addr} {fd : FuncData} (B : Bi mg) (F : FnP K "_law_begin" s_law_begin fa fd) : FnOk P w K mg base CX0 1 fa fd ["script"] (spBegin K) := by
  refine F.ok sc_law_begin (fun vs H Q E h => ?_) (fun cdv A outer s H vs Q E hr h => ⟨tBeg K, PSs.nox ?_, beg_reads h⟩)
  · obtain ⟨a, ns, rfl, _⟩ := h
    rfl
  · exact pss_one (ps_ret (pe_lst (pa_cons (pe_lc (own := [("cell", 1)]) (g := gName 1) (tt := tYes) rfl sc_law_begin.nd (pi_list (pv 0)) (blkOk_by (N := ["script", "cell"]) (sc := defScope s_law_begin) (by decide +kernel)) (fun _ _ _ _ _ => pg_name (i := 1) sc_law_begin.nd rfl (.inl rfl)) (fun _ _ _ _ _ => pts_nil)
      (fun _ _ _ _ _ => pe_callTy call_int1 (by rfl) B.b_int (by decide +kernel) (pa_cons (pv 1) pa_nil))) (pa_cons pe_int (pa_cons pe_int (pa_cons pe_int pa_nil))))))

abbrev slaw : Stmt := topS 21
abbrev Nlaw : List Str := ["script", "d", "many", "seats", "late", "rows", "best", "fewest", "table", "wrong", "told", "other", "key"]
theorem sclaw : FnScope ["script", "d", "many", "seats", "late", "rows", "best", "fewest", "table", "wrong", "told", "other", "key"] ["script"] (defScope slaw) := ⟨rfl, rfl, rfl, by decide +kernel, rfl, by decide +kernel, by decide +kernel⟩
noncomputable def mlaw_b1 : Ms :=
  (mSeq (mSet 9 (mL f_law_wrong (aCons (mVar 8) (aCons (mVar 5) (aCons (mVar 4) aNil)))))
  (mIfS (mOr (mTest (mOp (fIs false) (mVar 6) (mC .non))) (mTest (mOp fLt (mVar 9) (mVar 7)))) (mSeq (mSet 6 (mVar 8))
  (mSet 7 (mVar 9))) mNext))
noncomputable def mlaw_b2 : Ms :=
  (mSeq (mSet 9 (mL fwrong_guesses (aCons (mVar 8) (aCons (mVar 5) (aCons (mVar 4) aNil)))))
  (mIfS (mOr (mNot (mTest (mL f_law_is_int (aCons (mVar 9) aNil)))) (mTest (mOp fNe (mVar 9) (mL f_law_wrong (aCons (mVar 8) (aCons (mVar 5) (aCons (mVar 4) aNil))))))) (mRet (mC (.bl false))) mNext))
noncomputable def mlaw : Ms :=
  (mSeq (mSet 2 (mL f_law_pick (aCons (mVar 1) (aCons (mL fLst (aCons (mC (.int 2)) (aCons (mC (.int 3)) (aCons (mC (.int 2)) (aCons (mC (.int 4)) (aCons (mC (.int 3)) aNil)))))) aNil))))
  (mSeq (mSet 3 (mL f_law_pick (aCons (mVar 1) (aCons (mL fLst (aCons (mC (.int 1)) (aCons (mC (.int 2)) (aCons (mC (.int 2)) (aCons (mC (.int 3)) (aCons (mC (.int 4)) aNil)))))) aNil))))
  (mSeq (mSet 4 (mL f_law_pick (aCons (mVar 1) (aCons (mL fLst (aCons (mC (.int 1)) (aCons (mC (.int 1)) (aCons (mC (.int 2)) (aCons (mC (.int 3)) (aCons (mOp fAdd (mC (.int 1)) (mL f_law_draw (aCons (mVar 1) (aCons (mC (.int 24)) aNil)))) aNil)))))) aNil))))
  (mSeq (mSet 5 (mL f_law_record (aCons (mVar 1) (aCons (mVar 3) (aCons (mVar 2) (aCons (mVar 4) aNil))))))
  (mSeq (mSet 6 (mC .non))
  (mSeq (mSet 7 (mC (.int 0)))
  (mSeq (mFor (mIt (mL f_law_tables (aCons (mVar 2) aNil))) (gN 8)
    mlaw_b1)
  (mSeq (mSet 10 (mL fbest_table (aCons (mVar 5) (aCons (mVar 2) (aCons (mVar 4) aNil)))))
  (mSeq (mIfS (mOr (mNot (mTest (mL f_law_is_ints (aCons (mVar 10) aNil)))) (mTest (mOp fNe (mVar 10) (mVar 6)))) (mRet (mC (.bl false))) mNext)
  (mSeq (mSet 11 (mL fTupOf (aCons (mComp (iRg fRg1 (aCons (mVar 2) aNil)) (gN 12) mYes (mL f_law_draw (aCons (mVar 1) (aCons (mVar 2) aNil))) [12]) aNil)))
  (mSeq (mFor (mIt (mL fLst (aCons (mVar 6) (aCons (mL f_law_bent_table (aCons (mVar 1) (aCons (mVar 6) (aCons (mVar 2) aNil)))) (aCons (mVar 11) aNil))))) (gN 8)
    mlaw_b2)
  (mRet (mL f_law_guesses_right (aCons (mVar 11) (aCons (mL f_law_pick (aCons (mVar 1) (aCons (mVar 5) aNil))) (aCons (mVar 4) aNil))))))))))))))))
theorem oklaw {P : Program} {w : World} {K : PySem.W.Frag} {mg : Str → Option Value} {base : Heap} {fa fb : Addr} {fd fdb : FuncData} (B : Bi mg) (F : FnP K "law" slaw fa fd) (FB : FnP K "_law_begin" s_law_begin fb fdb) (gB : mg "_law_begin" = some (.ref fb)) (D_law_pick : DefOk P w K mg base 2 "_law_pick" ["d", "row"] f_law_pick) (D_law_draw : DefOk P w K mg base 1 "_law_draw" ["d", "many"] f_law_draw) (D_law_record : DefOk P w K mg base 3 "_law_record" ["d", "seats", "many", "late"] f_law_record) (D_law_tables : DefOk P w K mg base 1 "_law_tables" ["many"] f_law_tables) (D_law_wrong : DefOk P w K mg base 2 "_law_wrong" ["table", "rows", "late"] f_law_wrong) (Dbest_table : DefOk P w K mg base 2 "best_table" ["rows", "many", "late"] fbest_table) (D_law_is_ints : DefOk P w K mg base 2 "_law_is_ints" ["row"] f_law_is_ints) (D_law_bent_table : DefOk P w K mg base 2 "_law_bent_table" ["d", "table", "many"] f_law_bent_table) (Dwrong_guesses : DefOk P w K mg base 2 "wrong_guesses" ["table", "rows", "late"] fwrong_guesses) (D_law_is_int : DefOk P w K mg base 1 "_law_is_int" ["thing"] f_law_is_int) (D_law_guesses_right : DefOk P w K mg base 3 "_law_guesses_right" ["table", "row", "late"] f_law_guesses_right)
    (M : ∀ ns : List Int, ns.length ≤ 63 → ∃ S', mlaw (none :: some (.loc 1) :: List.replicate 11 none) (begSto ns) = .ret (.bl true) S') : FnOk P w K mg base CX0 4 fa fd ["script"] (spLaw K) := by
  have GB : FnOk P w K mg base CX0 1 fb fdb ["script"] (spBegin K) := ok_law_begin B FB
  have bB : Binds K fdb ["script"] [] := FB.bindsN fun _ _ _ _ _ _ us hl => match us, hl with | [_], _ => rfl
  refine F.ok sclaw (fun vs H Q E h => ?_) (fun cdv A outer s H vs Q E hr h => ⟨_, PSs.nox (pss_cons (ps_set (i := 1) sclaw.nd rfl (.inr rfl) (pe_call (E := E0) GB (hr.mono (by decide)) (by rfl) gB FB.kp bB .nil pass0 (pa_cons (pv 0) pa_nil))) (?_ : FSs _ E _ mlaw)), law_reads (N := Nlaw) rfl M h⟩)
  · obtain ⟨a, ns, rfl, _⟩ := h
    rfl
  · exact (fss_cons (fs_set (i := 2) sclaw.nd rfl (.inr rfl) (fe_callD D_law_pick hr (by rfl) (fa_cons (fv 1) (fa_cons (fe_lst (fa_cons fe_int (fa_cons fe_int (fa_cons fe_int (fa_cons fe_int (fa_cons fe_int fa_nil)))))) fa_nil))))
    (fss_cons (fs_set (i := 3) sclaw.nd rfl (.inl rfl) (fe_callD D_law_pick hr (by rfl) (fa_cons (fv 1) (fa_cons (fe_lst (fa_cons fe_int (fa_cons fe_int (fa_cons fe_int (fa_cons fe_int (fa_cons fe_int fa_nil)))))) fa_nil))))
    (fss_cons (fs_set (i := 4) sclaw.nd rfl (.inl rfl) (fe_callD D_law_pick hr (by rfl) (fa_cons (fv 1) (fa_cons (fe_lst (fa_cons fe_int (fa_cons fe_int (fa_cons fe_int (fa_cons fe_int (fa_cons (fe_op op_addF fe_int (fe_callD D_law_draw hr (by rfl) (fa_cons (fv 1) (fa_cons fe_int fa_nil)))) fa_nil)))))) fa_nil))))
    (fss_cons (fs_set (i := 5) sclaw.nd rfl (.inl rfl) (fe_callD D_law_record hr (by rfl) (fa_cons (fv 1) (fa_cons (fv 3) (fa_cons (fv 2) (fa_cons (fv 4) fa_nil))))))
    (fss_cons (fs_set (i := 6) sclaw.nd rfl (.inl rfl) fe_non)
    (fss_cons (fs_set (i := 7) sclaw.nd rfl (.inl rfl) fe_int)
    (fss_cons (fs_for PassesOwn.never rfl (fi_any (fe_callD D_law_tables hr (by rfl) (fa_cons (fv 2) fa_nil))) (fg_name (i := 8) sclaw.nd rfl (.inl rfl)) (fss_cons (fs_set (i := 9) sclaw.nd rfl (.inl rfl) (fe_callD D_law_wrong hr (by rfl) (fa_cons (fv 8) (fa_cons (fv 5) (fa_cons (fv 4) fa_nil)))))
    (fss_one (fs_if (fw_pt (fw_or (ft_cmp op_isF (fv 6) fe_non (nomark _)) (fw_or1 (ft_cmp op_ltF (fv 9) (fv 7) (nomark _))))) (fss_cons (fs_set (i := 6) sclaw.nd rfl (.inl rfl) (fv 8))
    (fss_one (fs_set (i := 7) sclaw.nd rfl (.inl rfl) (fv 9)))) fss_nil))))
    (fss_cons (fs_set (i := 10) sclaw.nd rfl (.inl rfl) (fe_callD Dbest_table hr (by rfl) (fa_cons (fv 5) (fa_cons (fv 2) (fa_cons (fv 4) fa_nil)))))
    (fss_cons (fs_if (fw_pt (fw_or (ft_not (ft_val (fe_callD D_law_is_ints hr (by rfl) (fa_cons (fv 10) fa_nil)))) (fw_or1 (ft_cmp (op_neF hr.units) (fv 10) (fv 6) (nomark _))))) (fss_one (fs_ret fe_bl)) fss_nil)
    (fss_cons (fs_set (i := 11) sclaw.nd rfl (.inl rfl) (fe_callTy call_tupF (by rfl) B.b_tuple (by decide +kernel) (fa_cons (fe_lc (own := [("key", 12)]) (g := (gN 12)) (t := mYes) rfl sclaw.nd (fi_range1 (by rfl) B.b_range (fa_cons (fv 2) fa_nil)) (blkOk_by (N := Nlaw) (sc := defScope slaw) (by decide +kernel)) (fun _ _ _ _ _ => (fg_name (i := 12) sclaw.nd rfl (.inl rfl))) (fun _ _ _ _ _ => fts_nil) (fun _ _ _ _ _ => (fe_callD D_law_draw hr (by rfl) (fa_cons (fv 1) (fa_cons (fv 2) fa_nil))))) fa_nil)))
    (fss_cons (fs_for PassesOwn.never rfl (fi_any (fe_lst (fa_cons (fv 6) (fa_cons (fe_callD D_law_bent_table hr (by rfl) (fa_cons (fv 1) (fa_cons (fv 6) (fa_cons (fv 2) fa_nil)))) (fa_cons (fv 11) fa_nil))))) (fg_name (i := 8) sclaw.nd rfl (.inl rfl)) (fss_cons (fs_set (i := 9) sclaw.nd rfl (.inl rfl) (fe_callD Dwrong_guesses hr (by rfl) (fa_cons (fv 8) (fa_cons (fv 5) (fa_cons (fv 4) fa_nil)))))
    (fss_one (fs_if (fw_pt (fw_or (ft_not (ft_val (fe_callD D_law_is_int hr (by rfl) (fa_cons (fv 9) fa_nil)))) (fw_or1 (ft_cmp (op_neF hr.units) (fv 9) (fe_callD D_law_wrong hr (by rfl) (fa_cons (fv 8) (fa_cons (fv 5) (fa_cons (fv 4) fa_nil)))) (nomark _))))) (fss_one (fs_ret fe_bl)) fss_nil))))
    (fss_one (fs_ret (fe_callD D_law_guesses_right hr (by rfl) (fa_cons (fv 11) (fa_cons (fe_callD D_law_pick hr (by rfl) (fa_cons (fv 1) (fa_cons (fv 5) fa_nil))) (fa_cons (fv 4) fa_nil)))))))))))))))))
end G
set_option linter.all false
set_option maxRecDepth 100000
set_option maxHeartbeats 4000000
namespace G
open PySem PySem.Spec PyProof.Rows L2 FL
/-! ### the table of pairs -/
abbrev Tab := List ((Int × Int) × Int)
def encT (t : Tab) : List (List Key × D) := t.map fun e => ([.inl e.1.1, .inl e.1.2], .int e.2)
def cntT (t : Tab) (p : Int × Int) : Int := ((t.find? fun e => decide (e.1 = p)).map (·.2)).getD 0
def incT (t : Tab) (p : Int × Int) : Tab := if (t.any fun e => decide (e.1 = p)) = true then t.map (fun e => if e.1 = p then (e.1, cntT t p + 1) else e) else t ++ [(p, 1)]
@[simp] theorem keysK_two (a b : Int) : keysK [.int a, .int b] = some [.inl a, .inl b] := rfl
theorem key_eq {a b c d : Int} : (([.inl a, .inl b] : List Key) = [.inl c, .inl d]) ↔ (a, b) = (c, d) := by simp
theorem find_enc (t : Tab) (a b : Int) : ((encT t).find? fun kv => decide (kv.1 = [.inl a, .inl b])) = (t.find? fun e => decide (e.1 = (a, b))).map fun e => ([.inl e.1.1, .inl e.1.2], .int e.2) := by
  induction t with
  | nil => rfl
  | cons e t ih =>
    have h : decide ((([.inl e.1.1, .inl e.1.2], .int e.2) : List Key × D).1 = [.inl a, .inl b]) = decide (e.1 = (a, b)) := by
      rw [Bool.eq_iff_iff, decide_eq_true_iff, decide_eq_true_iff]
      exact key_eq
    unfold encT at ih ⊢
    rw [List.map_cons, List.find?_cons, List.find?_cons, h]
    cases decide (e.1 = (a, b)) with
    | true => rfl
    | false => exact ih
theorem any_enc (t : Tab) (a b : Int) : ((encT t).any fun kv => decide (kv.1 = [.inl a, .inl b])) = t.any fun e => decide (e.1 = (a, b)) := by
  induction t with
  | nil => rfl
  | cons e t ih =>
    have h : decide ((([.inl e.1.1, .inl e.1.2], .int e.2) : List Key × D).1 = [.inl a, .inl b]) = decide (e.1 = (a, b)) := by
      rw [Bool.eq_iff_iff, decide_eq_true_iff, decide_eq_true_iff]
      exact key_eq
    unfold encT at ih ⊢
    rw [List.map_cons, List.any_cons, List.any_cons, h, ih]
theorem val_enc (t : Tab) (a b : Int) : (valD (encT t) [.inl a, .inl b]).getD (.int 0) = .int (cntT t (a, b)) := by
  unfold valD cntT
  rw [find_enc]
  cases t.find? fun e => decide (e.1 = (a, b)) <;> rfl
theorem put_enc (t : Tab) (a b : Int) : putD (encT t) [.inl a, .inl b] (.int (cntT t (a, b) + 1)) = encT (incT t (a, b)) := by
  unfold putD incT
  rw [any_enc]
  split
  · unfold encT
    rw [List.map_map, List.map_map]
    refine List.map_congr_left fun e _ => ?_
    simp only [Function.comp]
    by_cases h : e.1 = (a, b)
    · rw [if_pos (key_eq.mpr h), if_pos h]
    · rw [if_neg (fun z => h (key_eq.mp z)), if_neg h]
  · rename_i h
    have hc : cntT t (a, b) = 0 := by
      unfold cntT
      have : t.find? (fun e => decide (e.1 = (a, b))) = none := by
        rw [List.find?_eq_none]
        intro e he hd
        exact h (List.any_eq_true.mpr ⟨e, he, hd⟩)
      rw [this]; rfl
    rw [hc]
    simp [encT]
theorem encT_len (t : Tab) : (encT t).length = t.length := by simp [encT]
theorem incT_len (t : Tab) (p : Int × Int) : (incT t p).length ≤ t.length + 1 := by
  unfold incT
  split <;> simp
def kk (row : List Int) (late tick : Int) : Int := if late ≤ tick then at_ row (tick - late) else 0
theorem kk_eq {row : List Int} {late tick : Int} (hl : 0 ≤ late) (h0 : 0 ≤ tick) (h1 : tick < len row) (S : Sto) : f_law_known_key [rowD row, .int tick, .int late] S = .ok (.int (kk row late tick)) S := by
  by_cases h : late ≤ tick
  · have e := sub_row (r := row) (i := tick - late) (by omega) (by omega) S
    simp [f_law_known_key, runB, m_law_known_key, h, e, trim_self, kk]
  · simp [f_law_known_key, runB, m_law_known_key, h, trim_self, kk]
/-- the pairs of a row up to a tick -/
def prsTo (row : List Int) (late : Int) (k : Nat) : List (Int × Int) := (List.range k).map fun (i : Nat) => (kk row late (i : Int), at_ row (i : Int))
theorem prsTo_succ (row late k) : prsTo row late (k + 1) = prsTo row late k ++ [(kk row late k, at_ row k)] := by simp [prsTo, List.range_succ]
def prs (row : List Int) (late : Int) : List (Int × Int) := prsTo row late row.length
def tabOf (ps : List (Int × Int)) : Tab := ps.foldl incT []
theorem tabOf_snoc (ps p) : tabOf (ps ++ [p]) = incT (tabOf ps) p := by simp [tabOf]
theorem tabOf_len : ∀ ps : List (Int × Int), (tabOf ps).length ≤ ps.length := by
  intro ps
  have : ∀ (ps : List (Int × Int)) (t : Tab), (ps.foldl incT t).length ≤ t.length + ps.length := by
    intro ps
    induction ps with
    | nil => intro t; simp
    | cons p r ih => intro t; rw [List.foldl_cons, List.length_cons]; have := ih (incT t p); have := incT_len t p; omega
  have := this ps []
  simpa [tabOf] using this
theorem cp_b1 {rows : D} {r : List Int} {late : Int} {S0 : Sto} {t : Tab} {tick : Int} {x y : Option D} (hl : 0 ≤ late) (h0 : 0 ≤ tick) (h1 : tick < len r) (hz : t.length < sizeLine) :
    mcounted_pairs_b1 [some rows, some (.int late), some (.loc S0.length), some (rowD r), some (.int tick), x, y] (S0 ++ [.dT (encT t)]) =
      .nx [some rows, some (.int late), some (.loc S0.length), some (rowD r), some (.int tick), some (.int (kk r late tick)), some (.tup [.int (kk r late tick), .int (at_ r tick)])] (S0 ++ [.dT (encT (incT t (kk r late tick, at_ r tick)))]) := by
  have e1 := fun S => sub_row (r := r) (i := tick) h0 h1 S
  have e3 : (encT t).length < sizeLine := by rw [encT_len]; exact hz
  rw [sizeLine_eq] at e3
  by_cases h : late ≤ tick
  · have e := fun S => sub_row (r := r) (i := tick - late) (by omega) (by omega) S
    have hk : kk r late tick = at_ r (tick - late) := by simp [kk, h]
    rw [hk]
    simp [mcounted_pairs_b1, h, e, e1, sizeLine_eq, val_enc, put_enc, e3]
  · have hk : kk r late tick = 0 := by simp [kk, h]
    rw [hk]
    simp [mcounted_pairs_b1, h, e1, sizeLine_eq, val_enc, put_enc, e3]
theorem foldl_len : ∀ (ps : List (Int × Int)) (t : Tab), (ps.foldl incT t).length ≤ t.length + ps.length := by
  intro ps
  induction ps with
  | nil => intro t; simp
  | cons p r ih => intro t; rw [List.foldl_cons, List.length_cons]; have := ih (incT t p); have := incT_len t p; omega
/-- a row's ticks are counted -/
theorem cp_row1 {rows : D} {r : List Int} {late : Int} {S0 : Sto} {t : Tab} {a b c : Option D} (hl : 0 ≤ late) (hz : t.length + r.length < sizeLine) :
    ∀ (i : Nat) (k : Int) (σ : Sd) (S' : Sto), k = i → 0 ≤ k → k < len r → (∃ x y z, σ = [some rows, some (.int late), some (.loc S0.length), some (rowD r), x, y, z] ∧ S' = S0 ++ [.dT (encT ((prsTo r late i).foldl incT t))]) →
    ∃ σ' S'', ((gN 4 (.int (0 + k)) σ S').fl mcounted_pairs_b1 = .nx σ' S'' ∨ (gN 4 (.int (0 + k)) σ S').fl mcounted_pairs_b1 = .cont σ' S'') ∧ (∃ x y z, σ' = [some rows, some (.int late), some (.loc S0.length), some (rowD r), x, y, z] ∧ S'' = S0 ++ [.dT (encT ((prsTo r late (i + 1)).foldl incT t))]) := by
      intro i k σ S' hik h0 hi p
      obtain ⟨x, y, z, rfl, rfl⟩ := p
      have hz2 : ((prsTo r late i).foldl incT t).length < sizeLine := by
        have := foldl_len (prsTo r late i) t
        have h3 : (prsTo r late i).length = i := by simp [prsTo]
        rw [len_eq] at hi
        omega
      rw [prsTo_succ]
      rw [List.foldl_append, List.foldl_cons, List.foldl_nil]
      generalize (prsTo r late i).foldl incT t = t' at *
      rw [← hik]
      have e := cp_b1 (rows := rows) (r := r) (late := late) (S0 := S0) (t := t') (tick := k) (x := y) (y := z) hl h0 hi hz2
      have e0 : (0 : Int) + k = k := Int.zero_add k
      exact ⟨_, _, .inl (by rw [e0]; exact nx_of e), _, _, _, rfl, rfl⟩
theorem cp_row2 {rows : D} {r : List Int} {late : Int} {S0 : Sto} {t : Tab} {a b c : Option D} (hl : 0 ≤ late) (hz : t.length + r.length < sizeLine) :
    ∃ x y z, forL (.its (rgD 0 (len r).toNat)) (gN 4) mcounted_pairs_b1 (rgD 0 (len r).toNat) [some rows, some (.int late), some (.loc S0.length), some (rowD r), a, b, c] (S0 ++ [.dT (encT t)]) =
      .nx [some rows, some (.int late), some (.loc S0.length), some (rowD r), x, y, z] (S0 ++ [.dT (encT ((prs r late).foldl incT t))]) := by
  obtain ⟨σ', S', e, x, y, z, rfl, rfl⟩ := for_row (r := r) (g := gN 4) (b := mcounted_pairs_b1) (σ := [some rows, some (.int late), some (.loc S0.length), some (rowD r), a, b, c]) (S := S0 ++ [.dT (encT t)])
    (fun i σ S' => ∃ x y z, σ = [some rows, some (.int late), some (.loc S0.length), some (rowD r), x, y, z] ∧ S' = S0 ++ [.dT (encT ((prsTo r late i).foldl incT t))])
    ⟨a, b, c, rfl, rfl⟩ (cp_row1 (a := a) (b := b) (c := c) hl hz)
  exact ⟨x, y, z, e⟩
theorem cp_row {rows : D} {r : List Int} {late : Int} {S0 : Sto} {t : Tab} {a b c : Option D} (hl : 0 ≤ late) (hz : t.length + r.length < sizeLine) (hr : len r ≤ 1000) :
    ∃ a' b' c', mcounted_pairs_b2 [some rows, some (.int late), some (.loc S0.length), some (rowD r), a, b, c] (S0 ++ [.dT (encT t)]) =
      .nx [some rows, some (.int late), some (.loc S0.length), some (rowD r), a', b', c'] (S0 ++ [.dT (encT ((prs r late).foldl incT t))]) := by
  obtain ⟨x, y, z, e⟩ := cp_row2 (rows := rows) (r := r) (late := late) (S0 := S0) (t := t) (a := a) (b := b) (c := c) hl hz
  refine ⟨x, y, z, ?_⟩
  have h1 : -4611686018427387904 ≤ len r ∧ len r < 4611686018427387904 := by have := len_pos r; omega
  simp [mcounted_pairs_b2, h1, e]
def prsA (rows : List (List Int)) (late : Int) : List (Int × Int) := rows.flatMap fun r => prs r late
theorem prs_len (r late) : (prs r late).length = r.length := by simp [prs, prsTo]
theorem prsA_take_le {rows : List (List Int)} {late : Int} (hr : ∀ r ∈ rows, len r ≤ 24) : ∀ i, (prsA (rows.take i) late).length ≤ 24 * i := by
  induction rows with
  | nil => intro i; simp [prsA]
  | cons r rs ih =>
    intro i
    cases i with
    | zero => simp [prsA]
    | succ i =>
      have h1 := ih (fun x hx => hr x (by simp [hx])) i
      have h2 := hr r (by simp)
      unfold prsA at h1 ⊢
      rw [List.take_succ_cons, List.flatMap_cons, List.length_append, prs_len]
      rw [len_eq] at h2
      omega
theorem lt_sz {n m : Nat} (h : n + m ≤ 1000) : n + m < sizeLine := by rw [sizeLine_eq]; omega
theorem cp_step {rows : List (List Int)} {late : Int} (hl : 0 ≤ late) (hn : rows.length ≤ 4) (hr : ∀ r ∈ rows, len r ≤ 24) (S : Sto) {i : Nat} {r : List Int} {x y z u : Option D} (hr' : rows[i]? = some r) :
    ∃ a b c, mcounted_pairs_b2 [some (rowsD rows), some (.int late), some (.loc S.length), some (rowD r), y, z, u] (S ++ [.dT (encT (tabOf (prsA (rows.take i) late)))]) =
      .nx [some (rowsD rows), some (.int late), some (.loc S.length), some (rowD r), a, b, c] (S ++ [.dT (encT (tabOf (prsA (rows.take (i + 1)) late)))]) := by
  have hrl := hr r (List.mem_of_getElem? hr')
  have hi := lt_of_some hr'
  have ht : rows.take (i + 1) = rows.take i ++ [r] := by
    rw [List.take_add_one, hr']; rfl
  have h3 : tabOf (prsA (rows.take (i + 1)) late) = (prs r late).foldl incT (tabOf (prsA (rows.take i) late)) := by
    rw [ht]
    unfold prsA tabOf
    rw [List.flatMap_append, List.foldl_append, List.flatMap_cons, List.flatMap_nil, List.append_nil]
  have h4 := tabOf_len (prsA (rows.take i) late)
  have h5 := prsA_take_le (late := late) hr i
  have h6 : (tabOf (prsA (rows.take i) late)).length + r.length ≤ 1000 := by rw [len_eq] at hrl; omega
  rw [h3]
  exact cp_row hl (lt_sz h6) (by omega)
theorem cp_step2 {rows : List (List Int)} {late : Int} (hl : 0 ≤ late) (hn : rows.length ≤ 4) (hr : ∀ r ∈ rows, len r ≤ 24) (S : Sto) :
   ∀ (i : Nat) (r : List Int) (σ : Sd) (S' : Sto), rows[i]? = some r → (∃ x y z u, σ = [some (rowsD rows), some (.int late), some (.loc S.length), x, y, z, u] ∧ S' = S ++ [.dT (encT (tabOf (prsA (rows.take i) late)))]) →
    ∃ σ' S'', ((gN 3 (rowD r) σ S').fl mcounted_pairs_b2 = .nx σ' S'' ∨ (gN 3 (rowD r) σ S').fl mcounted_pairs_b2 = .cont σ' S'') ∧ (∃ x y z u, σ' = [some (rowsD rows), some (.int late), some (.loc S.length), x, y, z, u] ∧ S'' = S ++ [.dT (encT (tabOf (prsA (rows.take (i + 1)) late)))]) := by
      intro i r σ S' hr' p
      obtain ⟨x, y, z, u, rfl, rfl⟩ := p
      obtain ⟨a', b', c', e⟩ := cp_step (x := x) (y := y) (z := z) (u := u) hl hn hr S hr'
      exact ⟨_, _, .inl (nx_of e), _, _, _, _, rfl, rfl⟩
theorem cp_base (rows : List (List Int)) (late : Int) (S : Sto) : S ++ [.dT []] = S ++ [.dT (encT (tabOf (prsA (rows.take 0) late)))] := by rw [List.take_zero]; rfl
theorem cp_loop {rows : List (List Int)} {late : Int} (hl : 0 ≤ late) (hn : rows.length ≤ 4) (hr : ∀ r ∈ rows, len r ≤ 24) (S : Sto) :
    ∃ x y z u, forL (.its (rows.map rowD)) (gN 3) mcounted_pairs_b2 (rows.map rowD) [some (rowsD rows), some (.int late), some (.loc S.length), none, none, none, none] (S ++ [.dT []]) =
      .nx [some (rowsD rows), some (.int late), some (.loc S.length), x, y, z, u] (S ++ [.dT (encT (tabOf (prsA rows late)))]) := by
  have h := for_map (xs := rows) (f := rowD) (g := gN 3) (b := mcounted_pairs_b2) (σ := [some (rowsD rows), some (.int late), some (.loc S.length), none, none, none, none]) (S := S ++ [.dT []])
    (fun i σ S' => ∃ x y z u, σ = [some (rowsD rows), some (.int late), some (.loc S.length), x, y, z, u] ∧ S' = S ++ [.dT (encT (tabOf (prsA (rows.take i) late)))])
    ⟨none, none, none, none, rfl, cp_base rows late S⟩ (cp_step2 hl hn hr S)
  obtain ⟨σ', S', e, x, y, z, u, h1, h2⟩ := h
  rw [h1, h2, List.take_length] at e
  exact ⟨x, y, z, u, e⟩
theorem cp_eq {rows : List (List Int)} {late : Int} (hl : 0 ≤ late) (hn : rows.length ≤ 4) (hr : ∀ r ∈ rows, len r ≤ 24) (S : Sto) :
    fcounted_pairs [rowsD rows, .int late] S = .ok (.loc S.length) (S ++ [.dT (encT (tabOf (prsA rows late)))]) := by
  obtain ⟨x, y, z, u, e⟩ := cp_loop hl hn hr S
  simp [fcounted_pairs, runB, mcounted_pairs, e]
  rw [trim_new (o := .dT (encT (tabOf (prsA rows late)))) (by simp) (by simp) (by simp [O.und, encT])]
end G
set_option linter.all false
set_option maxRecDepth 100000
set_option maxHeartbeats 4000000
namespace G
open PySem PySem.Spec PyProof.Rows L2 FL
/-! ### the plain law of the table -/
def cnZ (ps : List (Int × Int)) (p : Int × Int) : Int := (ps.map fun q => if q = p then 1 else 0).sum
def wrP (f : Int × Int → Bool) (ps : List (Int × Int)) : Int := (ps.map fun q => if f q = true then 1 else 0).sum
def keysT (t : Tab) : List (Int × Int) := t.map (·.1)
theorem any_keys (t : Tab) (p : Int × Int) : (t.any fun e => decide (e.1 = p)) = true ↔ p ∈ keysT t := by
  unfold keysT
  rw [List.any_eq_true, List.mem_map]
  constructor
  · rintro ⟨e, h, d⟩; exact ⟨e, h, of_decide_eq_true d⟩
  · rintro ⟨e, h, rfl⟩; exact ⟨e, h, by simp⟩
theorem keys_inc (t : Tab) (q : Int × Int) : keysT (incT t q) = if q ∈ keysT t then keysT t else keysT t ++ [q] := by
  unfold incT
  by_cases h : q ∈ keysT t
  · rw [if_pos ((any_keys t q).mpr h), if_pos h]
    unfold keysT
    rw [List.map_map]
    refine List.map_congr_left fun e _ => ?_
    simp only [Function.comp]
    split <;> rfl
  · rw [if_neg (fun z => h ((any_keys t q).mp z)), if_neg h]
    simp [keysT]
theorem find_upd (q p : Int × Int) (v : Int) : ∀ t : Tab, (t.map fun e => if e.1 = q then (e.1, v) else e).find? (fun e => decide (e.1 = p)) = (t.find? fun e => decide (e.1 = p)).map fun e => if e.1 = q then (e.1, v) else e
  | [] => rfl
  | e :: t => by
    have h : (if e.1 = q then (e.1, v) else e).1 = e.1 := by split <;> rfl
    rw [List.map_cons, List.find?_cons, List.find?_cons, h]
    cases decide (e.1 = p) with
    | true => rfl
    | false => exact find_upd q p v t
theorem find_some (t : Tab) (p : Int × Int) {e} (h : t.find? (fun e => decide (e.1 = p)) = some e) : e.1 = p := by have := List.find?_some h; simpa using this
theorem cnt_inc (t : Tab) (q p : Int × Int) : cntT (incT t q) p = cntT t p + if q = p then 1 else 0 := by
  unfold incT
  split
  · rename_i h
    unfold cntT
    rw [find_upd]
    by_cases hqp : q = p
    · subst hqp
      obtain ⟨e0, he0, hd0⟩ := List.any_eq_true.mp h
      have hs : (t.find? fun e => decide (e.1 = q)).isSome = true := by rw [List.find?_isSome]; exact ⟨e0, he0, hd0⟩
      obtain ⟨e, he⟩ := Option.isSome_iff_exists.mp hs
      have h1 := find_some t q he
      rw [he]
      simp [h1]
    · cases he : t.find? fun e => decide (e.1 = p) with
      | none => simp [hqp]
      | some e =>
        have h1 := find_some t p he
        have h2 : ¬ e.1 = q := fun z => hqp (by rw [← z, h1])
        simp [h2, hqp]
  · rename_i h
    have hn : t.find? (fun e => decide (e.1 = q)) = none := by
      rw [List.find?_eq_none]
      intro e he hd
      exact h (List.any_eq_true.mpr ⟨e, he, hd⟩)
    unfold cntT
    rw [List.find?_append]
    by_cases hqp : q = p
    · subst hqp
      rw [hn]
      simp
    · cases he : t.find? fun e => decide (e.1 = p) with
      | none => simp [hqp]
      | some e => simp [hqp]
theorem nodup_inc {t : Tab} (h : (keysT t).Nodup) (q) : (keysT (incT t q)).Nodup := by
  rw [keys_inc]
  split
  · exact h
  · rename_i hq
    exact List.nodup_append.mpr ⟨h, by simp, fun a ha b hb => by rw [List.mem_singleton.mp hb]; rintro rfl; exact hq ha⟩
/-- what a table sums up to over the keys that f likes -/
def W (t : Tab) (f : Int × Int → Bool) : Int := (((keysT t).filter f).map (cntT t)).sum
theorem sum_split (c : Int × Int → Int) (f : Int × Int → Bool) (q : Int × Int) : ∀ ks : List (Int × Int), ks.Nodup →
    ((ks.filter f).map fun k => c k + if q = k then 1 else 0).sum = ((ks.filter f).map c).sum + if q ∈ ks ∧ f q = true then 1 else 0
  | [], _ => by simp
  | k :: ks, h => by
    have ih := sum_split c f q ks (List.nodup_cons.mp h).2
    have hk := (List.nodup_cons.mp h).1
    by_cases hf : f k = true
    · rw [List.filter_cons_of_pos hf, List.map_cons, List.sum_cons, List.map_cons, List.sum_cons, ih]
      by_cases hq : q = k
      · subst hq
        simp [hk, hf]; omega
      · simp [hq]; omega
    · rw [List.filter_cons_of_neg hf, ih]
      by_cases hq : q = k
      · subst hq
        simp [hk, hf]
      · simp [hq]
theorem W_inc {t : Tab} (h : (keysT t).Nodup) (f) (q) : W (incT t q) f = W t f + if f q = true then 1 else 0 := by
  have e : cntT (incT t q) = fun p => cntT t p + if q = p then 1 else 0 := funext fun p => cnt_inc t q p
  unfold W
  rw [e, sum_split _ _ _ _ (nodup_inc h q), keys_inc]
  by_cases hq : q ∈ keysT t
  · simp [hq]
  · rw [if_neg hq]
    have h0 : cntT t q = 0 := by
      unfold cntT
      have : t.find? (fun e => decide (e.1 = q)) = none := by
        rw [List.find?_eq_none]
        intro e he hd
        exact hq ((any_keys t q).mp (List.any_eq_true.mpr ⟨e, he, hd⟩))
      rw [this]; rfl
    rw [List.filter_append, List.map_append, List.sum_append]
    by_cases hf : f q = true
    · simp [hf, h0]
    · simp [hf]
theorem tab_facts (ps : List (Int × Int)) : ∀ t : Tab, (keysT t).Nodup → (keysT (ps.foldl incT t)).Nodup ∧ (∀ f, W (ps.foldl incT t) f = W t f + wrP f ps) ∧ ∀ p, cntT (ps.foldl incT t) p = cntT t p + cnZ ps p := by
  induction ps with
  | nil => intro t h; exact ⟨h, fun f => by simp [wrP], fun p => by simp [cnZ]⟩
  | cons q r ih =>
    intro t h
    obtain ⟨h1, h2, h3⟩ := ih (incT t q) (nodup_inc h q)
    refine ⟨h1, fun f => ?_, fun p => ?_⟩
    · rw [List.foldl_cons, h2, W_inc h]
      simp [wrP]; omega
    · rw [List.foldl_cons, h3, cnt_inc]
      simp [cnZ]; omega
theorem W_tab (ps f) : W (tabOf ps) f = wrP f ps := by
  have := (tab_facts ps [] (by simp [keysT])).2.1 f
  unfold tabOf
  rw [this]; simp [W, keysT]
theorem cnt_tab (ps p) : cntT (tabOf ps) p = cnZ ps p := by
  have := (tab_facts ps [] (by simp [keysT])).2.2 p
  unfold tabOf
  rw [this]; simp [cntT]
/-! ### the first greatest -/
def bkF (g : Int → Int) : Nat → Int
  | 0 => 0
  | k + 1 => if g (bkF g k) < g ((k : Int) + 1) then (k : Int) + 1 else bkF g k
theorem bkF_best (g : Int → Int) : ∀ k : Nat, 0 ≤ bkF g k ∧ bkF g k ≤ k ∧ (∀ j, 0 ≤ j → j < bkF g k → g j < g (bkF g k)) ∧ ∀ j, bkF g k < j → j ≤ k → g j ≤ g (bkF g k)
  | 0 => ⟨by simp [bkF], by simp [bkF], fun j h0 h1 => by simp [bkF] at h1; omega, fun j h0 h1 => by simp [bkF] at h0; omega⟩
  | k + 1 => by
    obtain ⟨h1, h2, h3, h4⟩ := bkF_best g k
    unfold bkF
    split
    · rename_i h
      refine ⟨by omega, by omega, fun j h0 hj => ?_, fun j hj h => by omega⟩
      rcases Int.lt_trichotomy j (bkF g k) with hl | he | hg
      · have := h3 j h0 hl; omega
      · rw [he]; exact h
      · have := h4 j hg (by omega); omega
    · rename_i h
      refine ⟨h1, by omega, h3, fun j hj hk => ?_⟩
      by_cases e : j = (k : Int) + 1
      · rw [e]; omega
      · exact h4 j hj (by omega)
end G
set_option linter.all false
set_option maxRecDepth 100000
set_option maxHeartbeats 4000000
namespace G
open PySem PySem.Spec PyProof.Rows L2 FL
/-! ### what the program's defs compute -/
/-- d.get((a, b), 0) of an encoded table -/
theorem look_enc (t : Tab) (a b : Int) : lookD (.dT (encT t)) (.tup [.int a, .int b]) = some (valD (encT t) [.inl a, .inl b]) := rfl
theorem bk_step {S : Sto} {n : Nat} {t : Tab} (hS : S[n]? = some (.dT (encT t))) (known many best key : Int) :
    mbest_key_b1 [some (.loc n), some (.int known), some (.int many), some (.int best), some (.int key)] S =
      .nx [some (.loc n), some (.int known), some (.int many), some (.int (if cntT t (known, best) < cntT t (known, key) then key else best)), some (.int key)] S := by
  by_cases h : cntT t (known, best) < cntT t (known, key)
  · simp [mbest_key_b1, sizeLine_eq, hS, val_enc, h]
  · simp [mbest_key_b1, sizeLine_eq, hS, val_enc, h]
theorem bk_eq {S : Sto} {n : Nat} {t : Tab} (hS : S[n]? = some (.dT (encT t))) (known many : Int) (h0 : 1 ≤ many) (h1 : many ≤ 1000) :
    fbest_key [.loc n, .int known, .int many] S = .ok (.int (bkF (fun b => cntT t (known, b)) (many - 1).toNat)) S := by
  have e := for_rg (lo := 1) (n := (many - 1).toNat) (g := gN 4) (b := mbest_key_b1) (σ := [some (.loc n), some (.int known), some (.int many), some (.int 0), none]) (S := S)
    (fun i σ S' => S' = S ∧ ∃ x, σ = [some (.loc n), some (.int known), some (.int many), some (.int (bkF (fun b => cntT t (known, b)) i)), x])
    ⟨rfl, none, rfl⟩ (by
      intro i σ S' hi p
      obtain ⟨rfl, x, rfl⟩ := p
      have e1 : (1 : Int) + (i : Int) = (i : Int) + 1 := Int.add_comm _ _
      rw [e1]
      refine ⟨_, _, .inl (nx_of (bk_step hS known many _ _)), rfl, some (.int ((i : Int) + 1)), ?_⟩
      simp only [bkF])
  obtain ⟨σ', S', e, rfl, x, rfl⟩ := e
  have h2 : -4611686018427387904 ≤ many ∧ many < 4611686018427387904 := by omega
  generalize hN : (many - 1).toNat = N at *
  simp [fbest_key, runB, mbest_key, h2, hN, e, trim_self]
/-- the best table -/
def bestT (t : Tab) (many : Int) : List Int := (List.range many.toNat).map fun (i : Nat) => bkF (fun b => cntT t ((i : Int), b)) (many - 1).toNat
theorem mem_rgD {lo : Int} {n : Nat} {d : D} (h : d ∈ rgD lo n) : ∃ i : Nat, i < n ∧ d = .int (lo + i) := by
  unfold rgD at h
  obtain ⟨i, hi, rfl⟩ := List.mem_map.mp h
  exact ⟨i, List.mem_range.mp hi, rfl⟩
def bestD (t : Tab) (many : Int) : D → D
  | .int i => .int (bkF (fun b => cntT t (i, b)) (many - 1).toNat)
  | _ => .non
theorem bt_comp {S : Sto} {n : Nat} {t : Tab} {rows late : D} (hS : S[n]? = some (.dT (encT t))) (many : Int) (h0 : 1 ≤ many) (h1 : many ≤ 1000) :
    compL (.its (rgD 0 many.toNat)) (gN 4) mYes (mL fbest_key (aCons (mVar 3) (aCons (mVar 4) (aCons (mVar 1) aNil)))) [4] [some rows, some (.int many), some late, some (.loc n), none] (rgD 0 many.toNat) [] S =
      .ok (.loc S.length) (S ++ [.lst ((bestT t many).map D.int)]) := by
  have := compL_map (src := .its (rgD 0 many.toNat)) (g := gN 4) (e := mL fbest_key (aCons (mVar 3) (aCons (mVar 4) (aCons (mVar 1) aNil)))) (vs := [4]) (σ := [some rows, some (.int many), some late, some (.loc n), none]) (S := S) (bestD t many) trivial (rgD 0 many.toNat)
    (by
      intro d hd
      obtain ⟨i, hi, rfl⟩ := mem_rgD hd
      have e := bk_eq hS (0 + (i : Int)) many h0 h1
      generalize (0 : Int) + (i : Int) = k at *
      refine ⟨_, rfl, ?_⟩
      simp [wipeD, e, bestD]) (by rw [rgD_len, sizeLine_eq]; omega)
  rw [this]
  congr 3
  unfold bestT rgD
  rw [List.map_map, List.map_map]
  congr 1
  refine List.map_congr_left fun i _ => ?_
  show bestD t many (.int (0 + (i : Int))) = _
  rw [Int.zero_add]
  rfl
theorem bt_eq {rows : List (List Int)} {late many : Int} (hl : 0 ≤ late) (hn : rows.length ≤ 4) (hr : ∀ r ∈ rows, len r ≤ 24) (h0 : 1 ≤ many) (h1 : many ≤ 1000) (S : Sto) :
    fbest_table [rowsD rows, .int many, .int late] S = .ok (rowD (bestT (tabOf (prsA rows late)) many)) S := by
  have e1 := cp_eq hl hn hr S
  have h2 : -4611686018427387904 ≤ many ∧ many < 4611686018427387904 := by omega
  have e2 := bt_comp (S := S ++ [.dT (encT (tabOf (prsA rows late)))]) (n := S.length) (t := tabOf (prsA rows late)) (rows := rowsD rows) (late := .int late) (by simp) many h0 h1
  generalize hN : many.toNat = N at *
  simp only [List.length_append, List.length_cons, List.length_nil, List.append_assoc, List.cons_append, List.nil_append] at e2
  simp [fbest_table, runB, mbest_table, e1, h2, hN, e2]
  have : D.tup (List.map D.int (bestT (tabOf (prsA rows late)) many)) = rowD (bestT (tabOf (prsA rows late)) many) := rfl
  rw [this, trim_pre (by simp)]
/-! ### wrong guesses -/
def fB (table : List Int) (p : Int × Int) : Bool := decide (at_ table p.1 ≠ p.2)
theorem at_mem {r : List Int} {i : Int} (h0 : 0 ≤ i) (h1 : i < len r) : at_ r i ∈ r := by
  rw [len_eq] at h1
  unfold at_
  rw [List.getD_eq_getElem?_getD, List.getElem?_eq_getElem (by omega)]
  exact List.getElem_mem _
theorem kk_mem {r : List Int} {late tick many : Int} (hm : 0 < many) (hl : 0 ≤ late) (h0 : 0 ≤ tick) (h1 : tick < len r) (hk : ∀ x ∈ r, 0 ≤ x ∧ x < many) : 0 ≤ kk r late tick ∧ kk r late tick < many := by
  unfold kk
  split
  · exact hk _ (at_mem (by omega) (by omega))
  · omega
theorem prsA_mem {rows : List (List Int)} {late many : Int} (hm : 0 < many) (hl : 0 ≤ late) (hk : ∀ r ∈ rows, ∀ x ∈ r, 0 ≤ x ∧ x < many) : ∀ p ∈ prsA rows late, 0 ≤ p.1 ∧ p.1 < many ∧ 0 ≤ p.2 ∧ p.2 < many := by
  intro p hp
  unfold prsA at hp
  obtain ⟨r, hr, hp⟩ := List.mem_flatMap.mp hp
  obtain ⟨i, hi, rfl⟩ := List.mem_map.mp hp
  have hi := List.mem_range.mp hi
  have h1 : (i : Int) < len r := by rw [len_eq]; omega
  have a := kk_mem (late := late) hm hl (by omega) h1 (hk r hr)
  have b := hk r hr _ (at_mem (r := r) (i := i) (by omega) h1)
  exact ⟨a.1, a.2, b.1, b.2⟩
def goodD (table : List Int) : D → Bool
  | .tup [.int a, .int b] => fB table (a, b)
  | _ => false
def cntD (t : Tab) : D → D
  | .tup [.int a, .int b] => .int (cntT t (a, b))
  | _ => .non
theorem cnt_val {t : Tab} {p : Int × Int} (h : p ∈ keysT t) : valD (encT t) [.inl p.1, .inl p.2] = some (.int (cntT t p)) := by
  have h1 := val_enc t p.1 p.2
  unfold valD at h1 ⊢
  rw [find_enc] at h1 ⊢
  obtain ⟨e, he, hd⟩ := List.mem_map.mp h
  have hs : (t.find? fun e => decide (e.1 = (p.1, p.2))).isSome = true := by rw [List.find?_isSome]; exact ⟨e, he, by simp [hd]⟩
  obtain ⟨e, he⟩ := Option.isSome_iff_exists.mp hs
  rw [he] at h1 ⊢
  simpa using h1
theorem wg_comp {S : Sto} {n : Nat} {t : Tab} {table : List Int} {many : Int} {rows late : D} (hS : S[n]? = some (.fT (encT t))) (hT : len table = many) (hk : ∀ p ∈ keysT t, 0 ≤ p.1 ∧ p.1 < many) (hz : t.length ≤ 1000) :
    compL (.at_ n (.fT (encT t)) ((encT t).map fun p => D.tup (p.1.map keyD))) (gN 4) (mTest (mOp fNe (mOp fSub_ (mVar 0) (mOp fSub_ (mVar 4) (mC (.int 0)))) (mOp fSub_ (mVar 4) (mC (.int 1))))) (mOp fSub_ (mVar 3) (mVar 4)) [4]
      [some (rowD table), some rows, some late, some (.loc n), none] ((encT t).map fun p => D.tup (p.1.map keyD)) [] S =
      .ok (.loc S.length) (S ++ [.lst ((((keysT t).filter (fB table)).map (cntT t)).map D.int)]) := by
  have ek : ((encT t).map fun p => D.tup (p.1.map keyD)) = (keysT t).map fun p => D.tup [.int p.1, .int p.2] := by
    unfold encT keysT
    rw [List.map_map, List.map_map]
    rfl
  rw [ek]
  have := compL_pure (src := .at_ n (.fT (encT t)) ((keysT t).map fun p => D.tup [.int p.1, .int p.2])) (g := gN 4) (t := mTest (mOp fNe (mOp fSub_ (mVar 0) (mOp fSub_ (mVar 4) (mC (.int 0)))) (mOp fSub_ (mVar 4) (mC (.int 1))))) (e := mOp fSub_ (mVar 3) (mVar 4)) (vs := [4]) (σ := [some (rowD table), some rows, some late, some (.loc n), none]) (S := S)
    (goodD table) (cntD t) hS ((keysT t).map fun p => D.tup [.int p.1, .int p.2]) [] (by
      intro d hd
      obtain ⟨p, hp, rfl⟩ := List.mem_map.mp hd
      obtain ⟨h0, h1⟩ := hk p hp
      have e1 := fun S => sub_row (r := table) (i := p.1) h0 (by rw [hT]; exact h1) S
      have e2 := sub_fT (S := S) (n := n) (kts := encT t) (y := .tup [.int p.1, .int p.2]) hS (keysK_two p.1 p.2)
      refine ⟨_, rfl, ?_, fun _ => ?_⟩
      · simp [wipeD, e1, atI, ixN, goodD, fB]
      · simp [wipeD, e2, cnt_val hp, cntD]) (by rw [sizeLine_eq, List.length_map]; unfold keysT; rw [List.length_map, List.length_nil]; omega)
  rw [this, List.nil_append, List.filter_map, List.map_map, List.map_map]
  rfl
theorem wg_eq {rows : List (List Int)} {table : List Int} {late many : Int} (hm : 0 < many) (hl : 0 ≤ late) (hn : rows.length ≤ 4) (hr : ∀ r ∈ rows, len r ≤ 24) (hk : ∀ r ∈ rows, ∀ x ∈ r, 0 ≤ x ∧ x < many) (hT : len table = many) (S : Sto) :
    fwrong_guesses [rowD table, rowsD rows, .int late] S = .ok (.int (wrP (fB table) (prsA rows late))) S := by
  have e1 := cp_eq hl hn hr S
  have hlen : (tabOf (prsA rows late)).length ≤ 1000 := by
    have h4 := tabOf_len (prsA rows late)
    have h5 := prsA_take_le (late := late) hr rows.length
    rw [List.take_length] at h5
    omega
  have hkeys : ∀ p ∈ keysT (tabOf (prsA rows late)), 0 ≤ p.1 ∧ p.1 < many := by
    have key : ∀ (ps : List (Int × Int)) (t : Tab) (C : Int × Int → Prop), (∀ p ∈ keysT t, C p) → (∀ p ∈ ps, C p) → ∀ p ∈ keysT (ps.foldl incT t), C p := by
      intro ps
      induction ps with
      | nil => intro t C h _; exact h
      | cons q r ih =>
        intro t C h h'
        refine ih (incT t q) C (fun p hp => ?_) fun p hp => h' p (by simp [hp])
        rw [keys_inc] at hp
        split at hp
        · exact h p hp
        · rcases List.mem_append.mp hp with hp | hp
          · exact h p hp
          · rw [List.mem_singleton.mp hp]; exact h' q (by simp)
    intro p hp
    exact key (prsA rows late) [] (fun p => 0 ≤ p.1 ∧ p.1 < many) (by simp [keysT]) (fun p hp => ⟨(prsA_mem hm hl hk p hp).1, (prsA_mem hm hl hk p hp).2.1⟩) p hp
  have e2 := wg_comp (S := S ++ [.fT (encT (tabOf (prsA rows late)))]) (n := S.length) (t := tabOf (prsA rows late)) (table := table) (rows := rowsD rows) (late := .int late) (by simp) hT hkeys hlen
  have hW : (((keysT (tabOf (prsA rows late))).filter (fB table)).map (cntT (tabOf (prsA rows late)))).sum = wrP (fB table) (prsA rows late) := W_tab _ _
  generalize (((keysT (tabOf (prsA rows late))).filter (fB table)).map (cntT (tabOf (prsA rows late)))) = ns at *
  generalize encT (tabOf (prsA rows late)) = kt at *
  simp only [List.length_append, List.length_cons, List.length_nil, List.append_assoc, List.cons_append, List.nil_append] at e2
  have e3 : unlE S.length (.dT kt) (.fT kt) (.ok (.loc (S.length + (0 + 1))) (S ++ [.fT kt, .lst (ns.map D.int)])) = .ok (.loc (S.length + (0 + 1))) (S ++ [.dT kt, .lst (ns.map D.int)]) := by
    rw [unlE_ok (by simp)]
    simp
  simp only [Nat.zero_add] at e2 e3
  simp [fwrong_guesses, runB, mwrong_guesses, e1, e2, e3, intsD_map, hW]
  rw [trim_pre (by simp)]
/-! ### the law's count -/
theorem wr_step {rows : D} {r table : List Int} {late tick found many : Int} {S : Sto} (hm : 0 < many) (hl : 0 ≤ late) (h0 : 0 ≤ tick) (h1 : tick < len r) (hk : ∀ x ∈ r, 0 ≤ x ∧ x < many) (hT : len table = many) :
    m_law_wrong_b1 [some (rowD table), some rows, some (.int late), some (.int found), some (rowD r), some (.int tick)] S =
      .nx [some (rowD table), some rows, some (.int late), some (.int (found + if fB table (kk r late tick, at_ r tick) = true then 1 else 0)), some (rowD r), some (.int tick)] S := by
  have e1 := kk_eq hl h0 h1 S
  have hkk := kk_mem (late := late) hm hl h0 h1 hk
  have e2 := fun S => sub_row (r := table) (i := kk r late tick) hkk.1 (by rw [hT]; exact hkk.2) S
  have e3 := fun S => sub_row (r := r) (i := tick) h0 h1 S
  by_cases h : at_ table (kk r late tick) = at_ r tick
  · simp [m_law_wrong_b1, e1, e2, e3, h, fB]
  · simp [m_law_wrong_b1, e1, e2, e3, h, fB]
theorem wrP_snoc (f ps p) : wrP f (ps ++ [p]) = wrP f ps + if f p = true then 1 else 0 := by simp [wrP]
theorem wrP_app (f ps qs) : wrP f (ps ++ qs) = wrP f ps + wrP f qs := by simp [wrP]
theorem wr_row {rows : D} {r table : List Int} {late found many : Int} {S : Sto} {x : Option D} (hm : 0 < many) (hl : 0 ≤ late) (hr : len r ≤ 24) (hk : ∀ x ∈ r, 0 ≤ x ∧ x < many) (hT : len table = many) :
    ∃ y, m_law_wrong_b2 [some (rowD table), some rows, some (.int late), some (.int found), some (rowD r), x] S =
      .nx [some (rowD table), some rows, some (.int late), some (.int (found + wrP (fB table) (prs r late))), some (rowD r), y] S := by
  obtain ⟨σ', S', e, rfl, y, rfl⟩ := for_row (r := r) (g := gN 5) (b := m_law_wrong_b1) (σ := [some (rowD table), some rows, some (.int late), some (.int found), some (rowD r), x]) (S := S)
    (fun i σ S' => S' = S ∧ ∃ y, σ = [some (rowD table), some rows, some (.int late), some (.int (found + wrP (fB table) (prsTo r late i))), some (rowD r), y])
    ⟨rfl, x, by simp [prsTo, wrP]⟩ (by
      intro i k σ S' hik h0 hi p
      obtain ⟨rfl, y, rfl⟩ := p
      have e0 : (0 : Int) + k = k := Int.zero_add k
      rw [prsTo_succ, wrP_snoc, ← hik, ← Int.add_assoc]
      exact ⟨_, _, .inl (by rw [e0]; exact nx_of (wr_step hm hl h0 hi hk hT)), rfl, _, rfl⟩)
  refine ⟨y, ?_⟩
  have h1 : -4611686018427387904 ≤ len r ∧ len r < 4611686018427387904 := by have := len_pos r; omega
  have h2 : prsTo r late r.length = prs r late := rfl
  rw [h2] at e
  simp [m_law_wrong_b2, h1, e]
theorem wr_eq {rows : List (List Int)} {table : List Int} {late many : Int} (hm : 0 < many) (hl : 0 ≤ late) (hr : ∀ r ∈ rows, len r ≤ 24) (hk : ∀ r ∈ rows, ∀ x ∈ r, 0 ≤ x ∧ x < many) (hT : len table = many) (S : Sto) :
    f_law_wrong [rowD table, rowsD rows, .int late] S = .ok (.int (wrP (fB table) (prsA rows late))) S := by
  have h := for_map (xs := rows) (f := rowD) (g := gN 4) (b := m_law_wrong_b2) (σ := [some (rowD table), some (rowsD rows), some (.int late), some (.int 0), none, none]) (S := S)
    (fun i σ S' => S' = S ∧ ∃ x y, σ = [some (rowD table), some (rowsD rows), some (.int late), some (.int (wrP (fB table) (prsA (rows.take i) late))), x, y])
    ⟨rfl, none, none, by simp [prsA, wrP]⟩ (by
      intro i r σ S' hr' p
      obtain ⟨rfl, x, y, rfl⟩ := p
      have hmem := List.mem_of_getElem? hr'
      have ht : rows.take (i + 1) = rows.take i ++ [r] := by
        rw [List.take_add_one, hr']; rfl
      have h3 : wrP (fB table) (prsA (rows.take (i + 1)) late) = wrP (fB table) (prsA (rows.take i) late) + wrP (fB table) (prs r late) := by
        rw [ht]
        unfold prsA
        rw [List.flatMap_append, wrP_app, List.flatMap_cons, List.flatMap_nil, List.append_nil]
      obtain ⟨y', e⟩ := wr_row (rows := rowsD rows) (r := r) (table := table) (late := late) (found := wrP (fB table) (prsA (rows.take i) late)) (S := S') (x := y) hm hl (hr r hmem) (hk r hmem) hT
      rw [h3]
      exact ⟨_, _, .inl (nx_of e), rfl, _, _, rfl⟩)
  obtain ⟨σ', S', e, rfl, x, y, rfl⟩ := h
  rw [List.take_length] at e
  simp [f_law_wrong, runB, m_law_wrong, e, trim_self]
end G
set_option linter.all false
set_option maxRecDepth 100000
set_option maxHeartbeats 4000000
namespace G
open PySem PySem.Spec PyProof.Rows L2 FL
/-! ### all tables -/
def extR (M : Nat) (r : List Int) : List (List Int) := (List.range M).map fun (k : Nat) => r ++ [(k : Int)]
def ext (M : Nat) (ts : List (List Int)) : List (List Int) := ts.flatMap (extR M)
def tabs (M : Nat) : Nat → List (List Int)
  | 0 => [[]]
  | n + 1 => ext M (tabs M n)
theorem ext_len (M : Nat) (ts) : (ext M ts).length = ts.length * M := by
  unfold ext
  induction ts with
  | nil => simp
  | cons t r ih => rw [List.flatMap_cons, List.length_append, ih, List.length_cons]; simp [extR, Nat.succ_mul]; omega
theorem tabs_len (M : Nat) (hM : M ≤ 4) : ∀ n, n ≤ 4 → (tabs M n).length ≤ 256 := by
  have h : ∀ n, (tabs M n).length ≤ 4 ^ n := by
    intro n
    induction n with
    | zero => simp [tabs]
    | succ n ih =>
      show (ext M (tabs M n)).length ≤ _
      rw [ext_len, Nat.pow_succ]
      exact Nat.mul_le_mul ih hM
  intro n hn
  exact Nat.le_trans (h n) (by
    have : 4 ^ n ≤ 4 ^ 4 := Nat.pow_le_pow_right (by decide) hn
    exact this)
theorem tabs_mem (M : Nat) : ∀ n, ∀ r ∈ tabs M n, r.length = n ∧ ∀ x ∈ r, 0 ≤ x ∧ x < M
  | 0, r, h => by
    have h : r ∈ [[]] := h
    rw [List.mem_singleton.mp h]
    exact ⟨rfl, fun x hx => by cases hx⟩
  | n + 1, r, h => by
    have h : r ∈ (tabs M n).flatMap (extR M) := h
    obtain ⟨r0, h0, h1⟩ := List.mem_flatMap.mp h
    obtain ⟨k, hk, rfl⟩ := List.mem_map.mp h1
    have hk := List.mem_range.mp hk
    obtain ⟨e1, e2⟩ := tabs_mem M n r0 h0
    refine ⟨by simp [e1], fun x hx => ?_⟩
    rcases List.mem_append.mp hx with hx | hx
    · exact e2 x hx
    · rw [List.mem_singleton.mp hx]; omega
theorem tb1 {many rows entry : D} {S0 : Sto} {xs : List (List Int)} {r : List Int} {k : Int} (hx : xs.length ≤ 1000) (hr : r.length ≤ 100) :
    m_law_tables_b1 [some many, some rows, some entry, some (.loc S0.length), some (rowD r), some (.int k)] (S0 ++ [.lst (xs.map rowD)]) =
      .nx [some many, some rows, some entry, some (.loc S0.length), some (rowD r), some (.int k)] (S0 ++ [.lst ((xs ++ [r ++ [k]]).map rowD)]) := by
  have e : ∀ S, fAdd (rowD r) (.tup [.int k]) S = .ok (rowD (r ++ [k])) S := fun S => add_row (a := r) (b := [k]) (by simp; omega) S
  have h : xs.length < 16777216 := by omega
  simp [m_law_tables_b1, sizeLine_eq, e, h]
theorem tb2 {rows entry : D} {S0 : Sto} {xs : List (List Int)} {r : List Int} {M : Int} {x : Option D} (h0 : 0 ≤ M) (h1 : M ≤ 4) (hx : xs.length ≤ 900) (hr : r.length ≤ 100) :
    ∃ y, m_law_tables_b2 [some (.int M), some rows, some entry, some (.loc S0.length), some (rowD r), x] (S0 ++ [.lst (xs.map rowD)]) =
      .nx [some (.int M), some rows, some entry, some (.loc S0.length), some (rowD r), y] (S0 ++ [.lst ((xs ++ extR M.toNat r).map rowD)]) := by
  obtain ⟨σ', S', e, y, rfl, rfl⟩ := for_rg (lo := 0) (n := M.toNat) (g := gN 5) (b := m_law_tables_b1) (σ := [some (.int M), some rows, some entry, some (.loc S0.length), some (rowD r), x]) (S := S0 ++ [.lst (xs.map rowD)])
    (fun i σ S' => ∃ y, σ = [some (.int M), some rows, some entry, some (.loc S0.length), some (rowD r), y] ∧ S' = S0 ++ [.lst ((xs ++ extR i r).map rowD)])
    ⟨x, rfl, by simp [extR]⟩ (by
      intro i σ S' hi p
      obtain ⟨y, rfl, rfl⟩ := p
      have e0 : (0 : Int) + i = i := Int.zero_add _
      have e2 : xs ++ extR (i + 1) r = (xs ++ extR i r) ++ [r ++ [(i : Int)]] := by simp [extR, List.range_succ]
      have h2 : (xs ++ extR i r).length ≤ 1000 := by simp [extR]; omega
      rw [e0, e2]
      generalize (i : Int) = k at *
      exact ⟨_, _, .inl (nx_of (tb1 h2 hr)), _, rfl, rfl⟩)
  refine ⟨y, ?_⟩
  have h3 : -4611686018427387904 ≤ M ∧ M < 4611686018427387904 := by omega
  generalize hN : M.toNat = N at *
  simp [m_law_tables_b2, h3, hN, e]
theorem tb3 {entry : D} {S0 : Sto} {ts : List (List Int)} {M : Int} {m : Nat} {x y z : Option D} (h0 : 0 ≤ M) (h1 : M ≤ 4) (hm : S0[m]? = some (.lst (ts.map rowD))) (ht : ts.length ≤ 200) (hr : ∀ r ∈ ts, r.length ≤ 100) :
    ∃ x' y' z', m_law_tables_b3 [some (.int M), some (.loc m), some entry, x, y, z] S0 =
      .nx [some (.int M), some (.loc S0.length), some entry, x', y', z'] (S0 ++ [.lst ((ext M.toNat ts).map rowD)]) := by
  have h := for_src (src := .at_ m (.lst (ts.map rowD)) (ts.map rowD)) (g := gN 4) (b := m_law_tables_b2) (σ := [some (.int M), some (.loc m), some entry, some (.loc S0.length), y, z]) (S := S0 ++ [.lst []])
    (fun i σ S' => ∃ y z, σ = [some (.int M), some (.loc m), some entry, some (.loc S0.length), y, z] ∧ S' = S0 ++ [.lst ((ext M.toNat (ts.take i)).map rowD)])
    ⟨y, z, rfl, by simp [ext]⟩ (fun i σ S' p => by
      obtain ⟨y, z, rfl, rfl⟩ := p
      show (S0 ++ _)[m]? = _
      rw [List.getElem?_append_left (lt_of_some hm)]
      exact hm) (by
      intro i d σ S' hd p
      obtain ⟨y, z, rfl, rfl⟩ := p
      have hd : (ts.map rowD)[i]? = some d := hd
      rw [List.getElem?_map, Option.map_eq_some_iff] at hd
      obtain ⟨r, hr', rfl⟩ := hd
      have hi := lt_of_some hr'
      have hrl := hr r (List.mem_of_getElem? hr')
      have htk : ts.take (i + 1) = ts.take i ++ [r] := by
        rw [List.take_add_one, hr']; rfl
      have h3 : ext M.toNat (ts.take (i + 1)) = ext M.toNat (ts.take i) ++ extR M.toNat r := by
        rw [htk]
        unfold ext
        rw [List.flatMap_append, List.flatMap_cons, List.flatMap_nil, List.append_nil]
      have h4 : (ext M.toNat (ts.take i)).length ≤ 900 := by
        rw [ext_len, List.length_take]
        have h5 : min i ts.length * M.toNat ≤ 200 * 4 := Nat.mul_le_mul (by omega) (by omega)
        omega
      obtain ⟨y', e⟩ := tb2 (rows := .loc m) (entry := entry) (S0 := S0) (xs := ext M.toNat (ts.take i)) (r := r) (M := M) (x := z) h0 h1 h4 hrl
      rw [h3]
      exact ⟨_, _, .inl (nx_of e), _, _, rfl, rfl⟩)
  obtain ⟨σ', S', e, y', z', rfl, rfl⟩ := h
  have hl : (Src.at_ m (.lst (ts.map rowD)) (ts.map rowD)).items.length = ts.length := by simp
  rw [hl, List.take_length] at e
  rw [Src.items] at e
  have hm2 : (S0 ++ [O.lst []])[m]? = some (.lst (ts.map rowD)) := by
    rw [List.getElem?_append_left (lt_of_some hm)]; exact hm
  refine ⟨some (.loc S0.length), y', z', ?_⟩
  simp [m_law_tables_b3, sizeLine_eq, hm2, e]
theorem tables_eq (M : Int) (h0 : 1 ≤ M) (h1 : M ≤ 4) (S : Sto) : f_law_tables [.int M] S = .ok (.loc S.length) (S ++ [.lst ((tabs M.toNat M.toNat).map rowD)]) := by
  have h := for_rg (lo := 0) (n := M.toNat) (g := gN 2) (b := m_law_tables_b3) (σ := [some (.int M), some (.loc S.length), none, none, none, none]) (S := S ++ [.lst [rowD []]])
    (fun i σ S' => ∃ e x y z J, J.length = i + 1 ∧ (S ++ J)[S.length + i]? = some (.lst ((tabs M.toNat i).map rowD)) ∧ σ = [some (.int M), some (.loc (S.length + i)), e, x, y, z] ∧ S' = S ++ J)
    ⟨none, none, none, none, [.lst [rowD []]], rfl, by simp [tabs], rfl, rfl⟩ (by
      intro i σ S' hi p
      obtain ⟨en, x, y, z, J, hJ, hm, rfl, rfl⟩ := p
      have hl := tabs_len M.toNat (by omega) i (by omega)
      have hr : ∀ r ∈ tabs M.toNat i, r.length ≤ 100 := fun r hr => by rw [(tabs_mem _ _ r hr).1]; omega
      have hl2 : (tabs M.toNat i).length ≤ 200 := by
        have h4 : (tabs M.toNat i).length ≤ 64 := by
          have hg : ∀ n, (tabs M.toNat n).length ≤ 4 ^ n := by
            intro n
            induction n with
            | zero => simp [tabs]
            | succ n ih =>
              show (ext M.toNat (tabs M.toNat n)).length ≤ _
              rw [ext_len, Nat.pow_succ]
              exact Nat.mul_le_mul ih (by omega)
          have h5 : i ≤ 3 := by omega
          have : 4 ^ i ≤ 4 ^ 3 := Nat.pow_le_pow_right (by decide) h5
          exact Nat.le_trans (hg i) this
        omega
      obtain ⟨x', y', z', e⟩ := tb3 (entry := .int (0 + (i : Int))) (S0 := S ++ J) (ts := tabs M.toNat i) (M := M) (m := S.length + i) (x := x) (y := y) (z := z) (by omega) h1 hm hl2 hr
      refine ⟨_, _, .inl (nx_of e), some (.int (0 + (i : Int))), x', y', z', J ++ [.lst ((tabs M.toNat (i + 1)).map rowD)], by simp [hJ], ?_, ?_, ?_⟩
      · rw [← List.append_assoc, List.getElem?_append_right (by simp [hJ])]
        simp [hJ]
      · rw [List.length_append, hJ]
      · rw [List.append_assoc]; rfl)
  obtain ⟨σ', S', e, en, x, y, z, J, hJ, hm, rfl, rfl⟩ := h
  have h3 : -4611686018427387904 ≤ M ∧ M < 4611686018427387904 := by omega
  have e2 : S ++ [O.lst [D.tup []]] = S ++ [.lst [rowD []]] := rfl
  generalize hN : M.toNat = N at *
  simp [f_law_tables, runB, m_law_tables, sizeLine_eq, h3, hN, e2, e]
  rw [trim_new (o := .lst ((tabs N N).map rowD)) (by omega) hm (by
    simp only [O.und]
    rw [unds_all, List.all_eq_true]
    intro d hd
    obtain ⟨r, _, rfl⟩ := List.mem_map.mp hd
    simp)]
/-! ### the first least -/
def FM (w : List Int → Int) (L : List (List Int)) (b : List Int) : Prop := ∃ l1 l2, L = l1 ++ b :: l2 ∧ (∀ x ∈ l1, w b < w x) ∧ ∀ x ∈ l2, w b ≤ w x
def wR (g : Int → Int → Int) : Int → List Int → Int
  | _, [] => 0
  | i, x :: r => g i x + wR g (i + 1) r
theorem wR_snoc (g) (k : Int) : ∀ (r : List Int) (i : Int), wR g i (r ++ [k]) = wR g i r + g (i + r.length) k
  | [], i => by simp [wR]
  | x :: r, i => by
    rw [List.cons_append, wR, wR, wR_snoc g k r (i + 1), List.length_cons]
    have : i + 1 + (r.length : Int) = i + ((r.length + 1 : Nat) : Int) := by omega
    rw [this]; omega
theorem range_split (M : Nat) (g : Int → Int) (b : Int) (h0 : 0 ≤ b) (h1 : b < M) (h2 : ∀ j, 0 ≤ j → j < b → g b < g j) (h3 : ∀ j, b < j → j < M → g b ≤ g j) :
    ∃ l1 l2 : List Nat, List.range M = l1 ++ b.toNat :: l2 ∧ (∀ x ∈ l1, g b < g (x : Int)) ∧ ∀ x ∈ l2, g b ≤ g (x : Int) := by
  refine ⟨List.range b.toNat, (List.range (M - b.toNat - 1)).map fun x => b.toNat + (x + 1), ?_, fun x hx => ?_, fun x hx => ?_⟩
  · have e : M = b.toNat + (M - b.toNat - 1 + 1) := by omega
    rw [e, List.range_add, List.range_succ_eq_map]
    have e2 : b.toNat + (M - b.toNat - 1 + 1) - b.toNat - 1 = M - b.toNat - 1 := by omega
    rw [e2, List.map_cons, List.map_map]
    rfl
  · have := List.mem_range.mp hx
    exact h2 x (by omega) (by omega)
  · obtain ⟨y, hy, rfl⟩ := List.mem_map.mp hx
    have := List.mem_range.mp hy
    exact h3 _ (by omega) (by omega)
theorem FM_step {M n : Nat} {g : Int → Int → Int} {B : List Int} {b : Int} (hB : FM (wR g 0) (tabs M n) B) (hl : ∀ r ∈ tabs M n, r.length = n) (h0 : 0 ≤ b) (h1 : b < M) (h2 : ∀ j, 0 ≤ j → j < b → g n b < g n j) (h3 : ∀ j, b < j → j < M → g n b ≤ g n j) :
    FM (wR g 0) (tabs M (n + 1)) (B ++ [b]) := by
  obtain ⟨l1, l2, e, f1, f2⟩ := hB
  obtain ⟨k1, k2, e', g1, g2⟩ := range_split M (g n) b h0 h1 h2 h3
  have hB : B.length = n := hl B (by rw [e]; simp)
  have hb : ((b.toNat : Nat) : Int) = b := by omega
  have hw : ∀ r, r.length = n → ∀ k, wR g 0 (r ++ [k]) = wR g 0 r + g n k := fun r hr k => by rw [wR_snoc, hr]; simp
  have hle : ∀ k : Nat, k < M → g n b ≤ g n k := fun k hk => by
    rcases Int.lt_trichotomy (k : Int) b with h | h | h
    · have := h2 k (by omega) h; omega
    · rw [h]; omega
    · exact h3 k h (by omega)
  refine ⟨ext M l1 ++ k1.map (fun (k : Nat) => B ++ [(k : Int)]), k2.map (fun (k : Nat) => B ++ [(k : Int)]) ++ ext M l2, ?_, fun x hx => ?_, fun x hx => ?_⟩
  · show ext M (tabs M n) = _
    rw [e]
    unfold ext
    rw [List.flatMap_append, List.flatMap_cons]
    have : extR M B = k1.map (fun (k : Nat) => B ++ [(k : Int)]) ++ (B ++ [b]) :: k2.map (fun (k : Nat) => B ++ [(k : Int)]) := by
      unfold extR
      rw [e', List.map_append, List.map_cons, hb]
    rw [this]
    simp
  · rw [hw B hB]
    rcases List.mem_append.mp hx with hx | hx
    · obtain ⟨r, hr, hx⟩ := List.mem_flatMap.mp hx
      obtain ⟨k, hk, rfl⟩ := List.mem_map.mp hx
      have hr2 := hl r (by rw [e]; simp [hr])
      rw [hw r hr2]
      have := f1 r hr
      have := hle k (List.mem_range.mp hk)
      omega
    · obtain ⟨k, hk, rfl⟩ := List.mem_map.mp hx
      rw [hw B hB]
      have := g1 k hk
      omega
  · rw [hw B hB]
    rcases List.mem_append.mp hx with hx | hx
    · obtain ⟨k, hk, rfl⟩ := List.mem_map.mp hx
      rw [hw B hB]
      have := g2 k hk
      omega
    · obtain ⟨r, hr, hx⟩ := List.mem_flatMap.mp hx
      obtain ⟨k, hk, rfl⟩ := List.mem_map.mp hx
      have hr2 := hl r (by rw [e]; simp [hr])
      rw [hw r hr2]
      have := f2 r hr
      have := hle k (List.mem_range.mp hk)
      omega
/-- the wrong guesses of a table, column by column -/
def gP (ps : List (Int × Int)) (k b : Int) : Int := wrP (fun p => decide (p.1 = k ∧ p.2 ≠ b)) ps
theorem wR_add (g g' : Int → Int → Int) : ∀ (T : List Int) (i : Int), wR (fun k b => g k b + g' k b) i T = wR g i T + wR g' i T
  | [], _ => rfl
  | x :: r, i => by simp only [wR]; rw [wR_add g g' r (i + 1)]; omega
theorem wR_zero : ∀ (T : List Int) (i : Int), wR (fun _ _ => 0) i T = 0
  | [], _ => rfl
  | x :: r, i => by simp only [wR]; rw [wR_zero r (i + 1)]; rfl
theorem wR_one (p : Int × Int) : ∀ (T : List Int) (i : Int), wR (fun k b => if decide (p.1 = k ∧ p.2 ≠ b) = true then 1 else 0) i T = if i ≤ p.1 ∧ p.1 < i + T.length then (if at_ T (p.1 - i) ≠ p.2 then 1 else 0) else 0
  | [], i => by simp [wR]; omega
  | x :: r, i => by
    rw [wR, wR_one p r (i + 1)]
    by_cases h : p.1 = i
    · have h1 : ¬ (i + 1 ≤ p.1 ∧ p.1 < i + 1 + (r.length : Int)) := by omega
      have h2 : i ≤ p.1 ∧ p.1 < i + ((x :: r).length : Int) := by rw [List.length_cons]; omega
      rw [if_neg h1, if_pos h2]
      have h3 : at_ (x :: r) (p.1 - i) = x := by rw [h]; simp [at_]
      rw [h3]
      by_cases hx : x = p.2
      · simp [h, hx]
      · have : ¬ p.2 = x := fun z => hx z.symm
        simp [h, hx, this]
    · have h4 : (if decide (p.1 = i ∧ p.2 ≠ x) = true then (1 : Int) else 0) = 0 := by simp [h]
      rw [h4, Int.zero_add]
      by_cases h5 : i + 1 ≤ p.1 ∧ p.1 < i + 1 + (r.length : Int)
      · have h6 : i ≤ p.1 ∧ p.1 < i + ((x :: r).length : Int) := by rw [List.length_cons]; omega
        rw [if_pos h5, if_pos h6]
        have h7 : at_ (x :: r) (p.1 - i) = at_ r (p.1 - (i + 1)) := by
          unfold at_
          have : (p.1 - i).toNat = (p.1 - (i + 1)).toNat + 1 := by omega
          rw [this]; simp
        rw [h7]
      · have h6 : ¬ (i ≤ p.1 ∧ p.1 < i + ((x :: r).length : Int)) := by rw [List.length_cons]; omega
        rw [if_neg h5, if_neg h6]
theorem wrP_col (T : List Int) : ∀ ps : List (Int × Int), (∀ p ∈ ps, 0 ≤ p.1 ∧ p.1 < T.length) → wrP (fB T) ps = wR (gP ps) 0 T
  | [], _ => by
    have : gP [] = fun _ _ => 0 := by funext k b; simp [gP, wrP]
    rw [this, wR_zero]; rfl
  | p :: ps, h => by
    have ih := wrP_col T ps fun q hq => h q (by simp [hq])
    have hp := h p (by simp)
    have e : gP (p :: ps) = fun k b => (if decide (p.1 = k ∧ p.2 ≠ b) = true then 1 else 0) + gP ps k b := by
      funext k b
      simp [gP, wrP]
    rw [e, wR_add, wR_one, if_pos (by omega), ← ih]
    simp [wrP, fB]
theorem gP_cnt (ps : List (Int × Int)) (k b : Int) : gP ps k b + cnZ ps (k, b) = wrP (fun p => decide (p.1 = k)) ps := by
  induction ps with
  | nil => rfl
  | cons p r ih =>
    have e1 : gP (p :: r) k b = (if p.1 = k ∧ p.2 ≠ b then 1 else 0) + gP r k b := by simp [gP, wrP]
    have e2 : cnZ (p :: r) (k, b) = (if p = (k, b) then 1 else 0) + cnZ r (k, b) := by simp [cnZ]
    have e3 : wrP (fun p => decide (p.1 = k)) (p :: r) = (if p.1 = k then 1 else 0) + wrP (fun p => decide (p.1 = k)) r := by simp [wrP]
    rw [e1, e2, e3, ← ih]
    have : p = (k, b) ↔ p.1 = k ∧ p.2 = b := by rw [Prod.ext_iff]
    by_cases h1 : p.1 = k
    · by_cases h2 : p.2 = b
      · simp [h1, h2, this]; omega
      · simp [h1, h2, this]; omega
    · simp [h1, this]; 
theorem best_FM (ps : List (Int × Int)) (M : Nat) (hM : 1 ≤ M) : ∀ n, FM (wR (gP ps) 0) (tabs M n) ((List.range n).map fun (i : Nat) => bkF (fun b => cntT (tabOf ps) ((i : Int), b)) (M - 1))
  | 0 => ⟨[], [], rfl, by simp, by simp⟩
  | n + 1 => by
    rw [List.range_succ, List.map_append]
    obtain ⟨h1, h2, h3, h4⟩ := bkF_best (fun b => cntT (tabOf ps) ((n : Int), b)) (M - 1)
    simp only [List.map_cons, List.map_nil]
    generalize bkF (fun b => cntT (tabOf ps) ((n : Int), b)) (M - 1) = b at *
    have hc : ∀ j, gP ps n j + cntT (tabOf ps) ((n : Int), j) = wrP (fun p => decide (p.1 = (n : Int))) ps := fun j => by rw [cnt_tab]; exact gP_cnt ps n j
    have hb := hc b
    refine FM_step (best_FM ps M hM n) (fun r hr => (tabs_mem M n r hr).1) h1 (by omega) (fun j h0 hj => ?_) fun j hj hk => ?_
    · have := h3 j h0 hj
      have := hc j

      omega
    · have := h4 j hj (by omega)
      have := hc j

      omega
theorem FM_congr {w w' : List Int → Int} {L b} (h : FM w L b) (e : ∀ x ∈ L, w x = w' x) : FM w' L b := by
  obtain ⟨l1, l2, rfl, h1, h2⟩ := h
  exact ⟨l1, l2, rfl, fun x hx => by rw [← e b (by simp), ← e x (by simp [hx])]; exact h1 x hx, fun x hx => by rw [← e b (by simp), ← e x (by simp [hx])]; exact h2 x hx⟩
/-- the best table is the first of all with the fewest wrong guesses -/
theorem best_first {rows : List (List Int)} {late many : Int} (h0 : 1 ≤ many) (hl : 0 ≤ late) (hk : ∀ r ∈ rows, ∀ x ∈ r, 0 ≤ x ∧ x < many) :
    FM (fun T => wrP (fB T) (prsA rows late)) (tabs many.toNat many.toNat) (bestT (tabOf (prsA rows late)) many) := by
  have h := best_FM (prsA rows late) many.toNat (by omega) many.toNat
  have e : (many - 1).toNat = many.toNat - 1 := by omega
  unfold bestT
  rw [e]
  refine FM_congr h fun T hT => ?_
  refine (wrP_col T _ fun p hp => ?_).symm
  have := prsA_mem (by omega) hl hk p hp
  rw [(tabs_mem _ _ T hT).1]
  omega
end G
set_option linter.all false
set_option maxRecDepth 100000
set_option maxHeartbeats 4000000
namespace G
open PySem PySem.Spec PyProof.Rows L2 FL
theorem trim_d2 {x y : O} {J : Sto} {d : D} {a b c : Int} (hd : d.und (J.length + 2) = true) : trim (x :: y :: J) d (x :: .lst [.loc 0, .int a, .int b, .int c] :: J) = .ok d (x :: .lst [.loc 0, .int a, .int b, .int c] :: J) := by
  refine trim_keep rfl hd fun i hi => ?_
  match i with
  | 0 => exact .inl rfl
  | 1 => exact .inr ⟨_, rfl, by simp [O.und]⟩
  | i + 2 => exact .inl rfl
theorem fmod_range {x m : Int} (h : 0 < m) : 0 ≤ x.fmod m ∧ x.fmod m < m := ⟨Int.fmod_nonneg_of_pos x h, Int.fmod_lt_of_pos x h⟩
theorem draw_eq0 (ns : List Int) (p r s : Int) (J : Sto) (many : Int) (h0 : 0 < many) (h1 : many < 1000000) (hp : 0 ≤ p) :
    ∃ x p' r' s', 0 ≤ p' ∧ f_law_draw [.loc 1, .int many] (dst ns p r s ++ J) = .ok (.int (Int.fmod x many)) (dst ns p' r' s' ++ J) := by
  have hm : many ≠ 0 := by omega
  have hn : many.natAbs < 1073741824 := by omega
  have hP : ¬ ((2 : Int) ^ 6000 = 0) := fun z => absurd (Int.pow_pos (n := 2) (m := 6000) (by decide)) (by rw [z]; decide)
  by_cases hr : 0 < r
  · refine ⟨r, p, Int.fdiv r many, s, hp, ?_⟩
    simp [f_law_draw, runB, m_law_draw, dst, hr, hm, hn, atI, ixN, trim_d2]
  · have hp1 : 0 ≤ p + 1 := by omega
    generalize hQ : (2 : Int) ^ 6000 = Z at hP
    by_cases hl : p < ns.length
    · have hl' : p.toNat < ns.length := by omega
      by_cases hneg : ns[p.toNat] < 0
      · by_cases hb : 2000000000000000000 ≤ 2 * -ns[p.toNat] + 1
        · refine ⟨?x1, p + 1, ?r1, ?s1, hp1, ?e1⟩
          case e1 =>
            simp [f_law_draw, runB, m_law_draw, dst, hr, hm, hn, atI, ixN, hl, hp, hneg, hb, hQ, hP]
            rw [trim_d2 (by simp)]
        · refine ⟨?x2, p + 1, ?r2, ?s2, hp1, ?e2⟩
          case e2 =>
            simp [f_law_draw, runB, m_law_draw, dst, hr, hm, hn, atI, ixN, hl, hp, hneg, hb, hQ, hP]
            rw [trim_d2 (by simp)]
      · by_cases hb : 2000000000000000000 ≤ 2 * ns[p.toNat]
        · refine ⟨?x3, p + 1, ?r3, ?s3, hp1, ?e3⟩
          case e3 =>
            simp [f_law_draw, runB, m_law_draw, dst, hr, hm, hn, atI, ixN, hl, hp, hneg, hb, hQ, hP]
            rw [trim_d2 (by simp)]
        · refine ⟨?x4, p + 1, ?r4, ?s4, hp1, ?e4⟩
          case e4 =>
            simp [f_law_draw, runB, m_law_draw, dst, hr, hm, hn, atI, ixN, hl, hp, hneg, hb, hQ, hP]
            rw [trim_d2 (by simp)]
    · refine ⟨?x5, p + 1, ?r5, ?s5, hp1, ?e5⟩
      case e5 =>
        simp [f_law_draw, runB, m_law_draw, dst, hr, hm, hn, atI, ixN, hl, hp, hQ, hP]
        rw [trim_d2 (by simp)]
/-- a draw: a number below many, the draws' state again one -/
theorem draw_eq (ns : List Int) (p r s : Int) (J : Sto) (many : Int) (h0 : 0 < many) (h1 : many < 1000000) (hp : 0 ≤ p) :
    ∃ k p' r' s', 0 ≤ k ∧ k < many ∧ 0 ≤ p' ∧ f_law_draw [.loc 1, .int many] (dst ns p r s ++ J) = .ok (.int k) (dst ns p' r' s' ++ J) := by
  obtain ⟨x, p', r', s', h, e⟩ := draw_eq0 ns p r s J many h0 h1 hp
  exact ⟨_, p', r', s', (fmod_range h0).1, (fmod_range h0).2, h, e⟩
/-- a pick out of a list of data -/
theorem pick_eq (ns : List Int) (p r s : Int) (J : Sto) (row : List D) (h0 : 0 < row.length) (h1 : row.length < 1000000) (hp : 0 ≤ p) (hu : ∀ x ∈ row, x.und (2 + (J.length + 1)) = true) :
    ∃ x p' r' s', x ∈ row ∧ 0 ≤ p' ∧ f_law_pick [.loc 1, .loc (2 + J.length)] (dst ns p r s ++ (J ++ [.lst row])) = .ok x (dst ns p' r' s' ++ (J ++ [.lst row])) := by
  obtain ⟨k, p', r', s', hk0, hk1, hp', e⟩ := draw_eq ns p r s (J ++ [.lst row]) row.length (by omega) (by omega) hp
  have hk : k.toNat < row.length := by omega
  have hx : row[k.toNat] ∈ row := List.getElem_mem hk
  refine ⟨row[k.toNat], p', r', s', hx, hp', ?_⟩
  have hu' := hu _ hx
  have ha : atI row k = some row[k.toNat] := by simp only [atI, ixN]; rw [if_pos hk0, if_pos (by omega)]; exact List.getElem?_eq_getElem hk
  generalize row[k.toNat] = x at *
  simp [f_law_pick, runB, m_law_pick, e, ha]
  exact trim_dst (by simpa using hu')
/-- .. out of a tuple -/
theorem pickT_eq (ns : List Int) (p r s : Int) (J : Sto) (row : List D) (h0 : 0 < row.length) (h1 : row.length < 1000000) (hp : 0 ≤ p) (hu : ∀ x ∈ row, x.und (2 + J.length) = true) :
    ∃ x p' r' s', x ∈ row ∧ 0 ≤ p' ∧ f_law_pick [.loc 1, .tup row] (dst ns p r s ++ J) = .ok x (dst ns p' r' s' ++ J) := by
  obtain ⟨k, p', r', s', hk0, hk1, hp', e⟩ := draw_eq ns p r s J row.length (by omega) (by omega) hp
  have hk : k.toNat < row.length := by omega
  have hx : row[k.toNat] ∈ row := List.getElem_mem hk
  refine ⟨row[k.toNat], p', r', s', hx, hp', ?_⟩
  have hu' := hu _ hx
  have ha : atI row k = some row[k.toNat] := by simp only [atI, ixN]; rw [if_pos hk0, if_pos (by omega)]; exact List.getElem?_eq_getElem hk
  generalize row[k.toNat] = x at *
  simp [f_law_pick, runB, m_law_pick, e, ha]
  exact trim_dst hu'
/-- a pick out of a written row of ints -/
theorem pickI_eq (ns : List Int) (p r s : Int) (J : Sto) (row : List Int) (h0 : 0 < row.length) (h1 : row.length < 1000000) (hp : 0 ≤ p) :
    ∃ x p' r' s', x ∈ row ∧ 0 ≤ p' ∧ f_law_pick [.loc 1, .loc (2 + J.length)] (dst ns p r s ++ (J ++ [.lst (row.map D.int)])) = .ok (.int x) (dst ns p' r' s' ++ (J ++ [.lst (row.map D.int)])) := by
  obtain ⟨x, p', r', s', hx, hp', e⟩ := pick_eq ns p r s J (row.map D.int) (by simpa using h0) (by simpa using h1) hp (fun x hx => by obtain ⟨i, _, rfl⟩ := List.mem_map.mp hx; simp)
  obtain ⟨i, hi, rfl⟩ := List.mem_map.mp hx
  exact ⟨i, p', r', s', hi, hp', e⟩
/-! ### the record -/
theorem kkL_eq {S : Sto} {n : Nat} {xs : List Int} {by_ : Int} (hS : S[n]? = some (.lst (xs.map D.int))) (hb : 1 ≤ by_) {tick : Int} (ht : tick = len xs) :
    f_law_known_key [.loc n, .int tick, .int by_] S = .ok (.int (kk xs by_ tick)) S := by
  have hp := len_pos xs
  by_cases h : by_ ≤ tick
  · have e := at_map (r := xs) (i := tick - by_) (by omega) (by omega)
    simp [f_law_known_key, runB, m_law_known_key, h, hS, e, trim_self, kk]
  · simp [f_law_known_key, runB, m_law_known_key, h, trim_self, kk]
theorem kr_step {ns : List Int} {p r s : Int} {J : Sto} {size many by_ noise tick : Int} {rule xs : List Int} (hp : 0 ≤ p) (hm : 2 ≤ many) (hm4 : many ≤ 4) (hn : 1 ≤ noise) (hn9 : noise ≤ 9) (hb : 1 ≤ by_) (hr : len rule = many) (hrr : ∀ x ∈ rule, 0 ≤ x ∧ x < many)
    (hx : ∀ x ∈ xs, 0 ≤ x ∧ x < many) (ht : tick = len xs) (hl : xs.length ≤ 100) :
    ∃ v p' r' s', 0 ≤ v ∧ v < many ∧ 0 ≤ p' ∧ m_law_keys_row_b1 [some (.loc 1), some (.int size), some (.int many), some (rowD rule), some (.int by_), some (.int noise), some (.loc (2 + J.length)), some (.int tick)] (dst ns p r s ++ (J ++ [.lst (xs.map D.int)])) =
      .nx [some (.loc 1), some (.int size), some (.int many), some (rowD rule), some (.int by_), some (.int noise), some (.loc (2 + J.length)), some (.int tick)] (dst ns p' r' s' ++ (J ++ [.lst ((xs ++ [v]).map D.int)])) := by
  obtain ⟨c, p1, r1, s1, _, _, hp1, e1⟩ := draw_eq ns p r s (J ++ [.lst (xs.map D.int)]) noise (by omega) (by omega) hp
  have h6 : (dst ns p1 r1 s1 ++ (J ++ [O.lst (xs.map D.int)]))[2 + J.length]? = some (.lst (xs.map D.int)) := by simp
  have hz : xs.length < 16777216 := by omega
  by_cases h : c = 0
  · obtain ⟨v, p2, r2, s2, hv0, hv1, hp2, e2⟩ := draw_eq ns p1 r1 s1 (J ++ [.lst (xs.map D.int)]) many (by omega) (by omega) hp1
    have h7 : (dst ns p2 r2 s2 ++ (J ++ [O.lst (xs.map D.int)])).set (2 + J.length) (.lst (xs.map D.int ++ [.int v])) = dst ns p2 r2 s2 ++ (J ++ [O.lst (xs.map D.int ++ [.int v])]) := by
      rw [List.set_append_right _ _ (by simp)]
      simp
    refine ⟨v, p2, r2, s2, hv0, hv1, hp2, ?_⟩
    simp [m_law_keys_row_b1, e1, h, e2, sizeLine_eq, hz, h7]
  · have e3 := kkL_eq h6 hb ht
    have hp0 := len_pos xs
    have hkk : 0 ≤ kk xs by_ tick ∧ kk xs by_ tick < many := by
      unfold kk
      split
      · exact hx _ (at_mem (by omega) (by omega))
      · omega
    have e4 := fun S => sub_row (r := rule) (i := kk xs by_ tick) hkk.1 (by rw [hr]; exact hkk.2) S
    have hv := hrr _ (at_mem (r := rule) (i := kk xs by_ tick) hkk.1 (by rw [hr]; exact hkk.2))
    generalize at_ rule (kk xs by_ tick) = v at *
    have h7 : (dst ns p1 r1 s1 ++ (J ++ [O.lst (xs.map D.int)])).set (2 + J.length) (.lst (xs.map D.int ++ [.int v])) = dst ns p1 r1 s1 ++ (J ++ [O.lst (xs.map D.int ++ [.int v])]) := by
      rw [List.set_append_right _ _ (by simp)]
      simp
    refine ⟨v, p1, r1, s1, hv.1, hv.2, hp1, ?_⟩
    simp [m_law_keys_row_b1, e1, h, e3, e4, sizeLine_eq, hz, h7]
theorem kr_eq {ns : List Int} {p r s : Int} {J : Sto} {size many by_ noise : Int} {rule : List Int} (hp : 0 ≤ p) (hs0 : 0 ≤ size) (hs : size ≤ 24) (hm : 2 ≤ many) (hm4 : many ≤ 4) (hn : 1 ≤ noise) (hn9 : noise ≤ 9) (hb : 1 ≤ by_) (hr : len rule = many) (hrr : ∀ x ∈ rule, 0 ≤ x ∧ x < many) :
    ∃ row p' r' s', len row = size ∧ (∀ x ∈ row, 0 ≤ x ∧ x < many) ∧ 0 ≤ p' ∧ f_law_keys_row [.loc 1, .int size, .int many, rowD rule, .int by_, .int noise] (dst ns p r s ++ J) = .ok (rowD row) (dst ns p' r' s' ++ J) := by
  obtain ⟨σ', S', e, xs, t, p1, r1, s1, hxl, hx, hp1, rfl, rfl⟩ := for_rg (lo := 0) (n := size.toNat) (g := gN 7) (b := m_law_keys_row_b1) (σ := [some (.loc 1), some (.int size), some (.int many), some (rowD rule), some (.int by_), some (.int noise), some (.loc (2 + J.length)), none]) (S := dst ns p r s ++ (J ++ [.lst []]))
    (fun i σ S' => ∃ (xs : List Int) (t : Option D) (p r s : Int), xs.length = i ∧ (∀ x ∈ xs, 0 ≤ x ∧ x < many) ∧ 0 ≤ p ∧ σ = [some (.loc 1), some (.int size), some (.int many), some (rowD rule), some (.int by_), some (.int noise), some (.loc (2 + J.length)), t] ∧ S' = dst ns p r s ++ (J ++ [.lst (xs.map D.int)]))
    ⟨[], none, p, r, s, rfl, by simp, hp, rfl, rfl⟩ (by
      intro i σ S' hi q
      obtain ⟨xs, t, p, r, s, hxl, hx, hp, rfl, rfl⟩ := q
      have e0 : (0 : Int) + i = len xs := by rw [len_eq, hxl]; omega
      rw [e0]
      obtain ⟨v, p', r', s', h1, h2, h3, e⟩ := kr_step (ns := ns) (p := p) (r := r) (s := s) (J := J) (size := size) (many := many) (by_ := by_) (noise := noise) (tick := len xs) (rule := rule) (xs := xs) hp hm hm4 hn hn9 hb hr hrr hx rfl (by omega)
      exact ⟨_, _, .inl (nx_of e), xs ++ [v], _, p', r', s', by simp [hxl], fun x hx' => (by
        rcases List.mem_append.mp hx' with h | h
        · exact hx x h
        · rw [List.mem_singleton.mp h]; exact ⟨h1, h2⟩), h3, rfl, rfl⟩)
  refine ⟨xs, p1, r1, s1, by rw [len_eq, hxl]; omega, hx, hp1, ?_⟩
  have h3 : -4611686018427387904 ≤ size ∧ size < 4611686018427387904 := by omega
  generalize hN : size.toNat = N at *
  simp [f_law_keys_row, runB, m_law_keys_row, sizeLine_eq, h3, hN, e]
  exact trim_dst2 (d := rowD xs) (by simp)
/-- a drawn row -/
theorem draws_comp {ns : List Int} {p r s : Int} {J : Sto} {many : Int} {v : Nat} {e : Me} {σ : Sd} (hp : 0 ≤ p) (hm : 1 ≤ many) (hm4 : many ≤ 1000) (he : ∀ k S, e ((wipeD σ [v]).set v (some (.int k))) S = f_law_draw [.loc 1, .int many] S) :
    ∃ row p' r' s', len row = many ∧ (∀ x ∈ row, 0 ≤ x ∧ x < many) ∧ 0 ≤ p' ∧ compL (.its (rgD 0 many.toNat)) (gN v) mYes e [v] σ (rgD 0 many.toNat) [] (dst ns p r s ++ J) = .ok (.loc (2 + J.length)) (dst ns p' r' s' ++ (J ++ [.lst (row.map D.int)])) := by
  obtain ⟨acc, S', h, _, row, p', r', s', hl, hx, hp', rfl, rfl⟩ := comp_rg (lo := 0) (n := many.toNat) (g := gN v) (e := e) (vs := [v]) (σ := σ) (S := dst ns p r s ++ J)
    (fun i acc S' => ∃ (row : List Int) (p r s : Int), row.length = i ∧ (∀ x ∈ row, 0 ≤ x ∧ x < many) ∧ 0 ≤ p ∧ acc = row.map D.int ∧ S' = dst ns p r s ++ J)
    ⟨[], p, r, s, rfl, by simp, hp, rfl, rfl⟩ (by rw [sizeLine_eq]; omega) (by
      intro i acc S' hi q
      obtain ⟨row, p, r, s, hl, hx, hp, rfl, rfl⟩ := q
      obtain ⟨k, p', r', s', h1, h2, h3, e1⟩ := draw_eq ns p r s J many (by omega) (by omega) hp
      exact ⟨_, .int k, dst ns p' r' s' ++ J, rfl, (he _ _).trans e1, row ++ [k], p', r', s', by simp [hl], fun x hx' => (by
        rcases List.mem_append.mp hx' with h | h
        · exact hx x h
        · rw [List.mem_singleton.mp h]; exact ⟨h1, h2⟩), h3, by simp, rfl⟩)
  refine ⟨row, p', r', s', by rw [len_eq, hl]; omega, hx, hp', ?_⟩
  rw [h]
  simp
end G
set_option linter.all false
set_option maxRecDepth 100000
set_option maxHeartbeats 4000000
namespace G
open PySem PySem.Spec PyProof.Rows L2 FL
theorem m1129 {late x : Int} (hl : 1 ≤ late) (h : x ∈ [late, late, 1, 2]) : 1 ≤ x := by
  simp only [List.mem_cons, List.not_mem_nil, or_false] at h
  omega
theorem m124 {x : Int} (h : x ∈ [(1 : Int), 2, 4, 9]) : 1 ≤ x ∧ x ≤ 9 := by
  simp only [List.mem_cons, List.not_mem_nil, or_false] at h
  omega
theorem msize {x : Int} (h : x ∈ [(1 : Int), 2, 3, 5, 8, 12, 24, 0]) : 0 ≤ x ∧ x ≤ 24 := by
  simp only [List.mem_cons, List.not_mem_nil, or_false] at h
  omega
structure Rws (rows : List (List Int)) (many : Int) : Prop where
  hr : ∀ r ∈ rows, len r ≤ 24
  hk : ∀ r ∈ rows, ∀ x ∈ r, 0 ≤ x ∧ x < many
theorem rec_step {ns : List Int} {p r s : Int} {J : Sto} {many size noise by_ seat : Int} {rule : List Int} {rows : List (List Int)} {seats late u13 : D} {un : Bool} {x : Option D} (hp : 0 ≤ p) (hs0 : 0 ≤ size) (hs : size ≤ 24) (hm : 2 ≤ many) (hm4 : many ≤ 4) (hn : 1 ≤ noise) (hn9 : noise ≤ 9) (hb : 1 ≤ by_) (hr : len rule = many) (hrr : ∀ x ∈ rule, 0 ≤ x ∧ x < many)
    (hR : Rws rows many) (hl : rows.length ≤ 100) {z : Option D} :
    ∃ row p' r' s' l', Rws (rows ++ [row]) many ∧ 0 ≤ p' ∧ m_law_record_b1 [some (.loc 1), some seats, some (.int many), some late, some (rowD rule), some (.int by_), some (.int noise), some (.int size), some (.bl un), some (.loc (2 + J.length)), some (.int seat), x, z] (dst ns p r s ++ (J ++ [.lst (rows.map rowD)])) =
      .nx [some (.loc 1), some seats, some (.int many), some late, some (rowD rule), some (.int by_), some (.int noise), some (.int size), some (.bl un), some (.loc (2 + J.length)), some (.int seat), l', z] (dst ns p' r' s' ++ (J ++ [.lst ((rows ++ [row]).map rowD)])) := by
  have hz : rows.length < 16777216 := by omega
  have h7 : ∀ p r s (row : List Int), (dst ns p r s ++ (J ++ [O.lst (rows.map rowD)])).set (2 + J.length) (.lst (rows.map rowD ++ [rowD row])) = dst ns p r s ++ (J ++ [O.lst (rows.map rowD ++ [rowD row])]) := fun p r s row => by
    rw [List.set_append_right _ _ (by simp)]
    simp
  have hR2 : ∀ {l : Int} {row : List Int}, len row = l → l ≤ 24 → (∀ x ∈ row, 0 ≤ x ∧ x < many) → Rws (rows ++ [row]) many := fun {l row} h1 h2 h3 => ⟨fun q hq => by
      rcases List.mem_append.mp hq with h | h
      · exact hR.hr q h
      · rw [List.mem_singleton.mp h, h1]; exact h2, fun q hq => by
      rcases List.mem_append.mp hq with h | h
      · exact hR.hk q h
      · rw [List.mem_singleton.mp h]; exact h3⟩
  cases un with
  | true =>
    obtain ⟨l, p1, r1, s1, hl0, hl1, hp1, e1⟩ := draw_eq ns p r s (J ++ [.lst (rows.map rowD)]) (size + 1) (by omega) (by omega) hp
    obtain ⟨row, p2, r2, s2, h1, h2, hp2, e2⟩ := kr_eq (ns := ns) (p := p1) (r := r1) (s := s1) (J := J ++ [.lst (rows.map rowD)]) (size := l) (many := many) (by_ := by_) (noise := noise) (rule := rule) hp1 hl0 (by omega) hm hm4 hn hn9 hb hr hrr
    refine ⟨row, p2, r2, s2, some (.int l), hR2 h1 (by omega) h2, hp2, ?_⟩
    simp [m_law_record_b1, e1, e2, sizeLine_eq, hz, h7]
  | false =>
    obtain ⟨row, p2, r2, s2, h1, h2, hp2, e2⟩ := kr_eq (ns := ns) (p := p) (r := r) (s := s) (J := J ++ [.lst (rows.map rowD)]) (size := size) (many := many) (by_ := by_) (noise := noise) (rule := rule) hp hs0 hs hm hm4 hn hn9 hb hr hrr
    refine ⟨row, p2, r2, s2, some (.int size), hR2 h1 (by omega) h2, hp2, ?_⟩
    simp [m_law_record_b1, e2, sizeLine_eq, hz, h7]
theorem rec_loop {ns : List Int} {p r s : Int} {J : Sto} {many size noise by_ seats : Int} {rule : List Int} {late : D} {un : Bool} (hp : 0 ≤ p) (hs0 : 0 ≤ size) (hs : size ≤ 24) (hm : 2 ≤ many) (hm4 : many ≤ 4) (hn : 1 ≤ noise) (hn9 : noise ≤ 9) (hb : 1 ≤ by_) (hr : len rule = many) (hrr : ∀ x ∈ rule, 0 ≤ x ∧ x < many)
    (h0 : 1 ≤ seats) (h4 : seats ≤ 4) {z : Option D} :
    ∃ rows p' r' s' l' t', rows.length = seats.toNat ∧ Rws rows many ∧ 0 ≤ p' ∧ forL (.its (rgD 0 seats.toNat)) (gN 10) m_law_record_b1 (rgD 0 seats.toNat) [some (.loc 1), some (.int seats), some (.int many), some late, some (rowD rule), some (.int by_), some (.int noise), some (.int size), some (.bl un), some (.loc (2 + J.length)), none, none, z] (dst ns p r s ++ (J ++ [.lst []])) =
      .nx [some (.loc 1), some (.int seats), some (.int many), some late, some (rowD rule), some (.int by_), some (.int noise), some (.int size), some (.bl un), some (.loc (2 + J.length)), t', l', z] (dst ns p' r' s' ++ (J ++ [.lst (rows.map rowD)])) := by
  have h := for_rg (lo := 0) (n := seats.toNat) (g := gN 10) (b := m_law_record_b1) (σ := [some (.loc 1), some (.int seats), some (.int many), some late, some (rowD rule), some (.int by_), some (.int noise), some (.int size), some (.bl un), some (.loc (2 + J.length)), none, none, z]) (S := dst ns p r s ++ (J ++ [.lst []]))
    (fun i σ S' => ∃ (rows : List (List Int)) (t l : Option D) (p r s : Int), rows.length = i ∧ Rws rows many ∧ 0 ≤ p ∧ σ = [some (.loc 1), some (.int seats), some (.int many), some late, some (rowD rule), some (.int by_), some (.int noise), some (.int size), some (.bl un), some (.loc (2 + J.length)), t, l, z] ∧ S' = dst ns p r s ++ (J ++ [.lst (rows.map rowD)]))
    ⟨[], none, none, p, r, s, rfl, ⟨by simp, by simp⟩, hp, rfl, rfl⟩ (by
      intro i σ S' hi q
      obtain ⟨rows, t, l, p, r, s, hl, hR, hp, rfl, rfl⟩ := q
      obtain ⟨row, p', r', s', l', h1, h2, e⟩ := rec_step (ns := ns) (p := p) (r := r) (s := s) (J := J) (many := many) (size := size) (noise := noise) (by_ := by_) (seat := 0 + (i : Int)) (rule := rule) (rows := rows) (seats := .int seats) (late := late) (u13 := .non) (un := un) (x := l) (z := z) hp hs0 hs hm hm4 hn hn9 hb hr hrr hR (by omega)
      exact ⟨_, _, .inl (nx_of e), rows ++ [row], _, l', p', r', s', by simp [hl], h1, h2, rfl, rfl⟩)
  obtain ⟨σ', S', e, rows, t, l, p', r', s', hl, hR, hp', rfl, rfl⟩ := h
  exact ⟨rows, p', r', s', l, t, hl, hR, hp', e⟩
theorem und_ints {k : Nat} {row : List Int} : ∀ x ∈ row.map D.int, x.und k = true := fun x hx => by
  obtain ⟨i, _, rfl⟩ := List.mem_map.mp hx
  simp
theorem record_eq {ns : List Int} {p r s : Int} {J : Sto} {many seats late : Int} (hp : 0 ≤ p) (hm : 2 ≤ many) (hm4 : many ≤ 4) (h0 : 1 ≤ seats) (h4 : seats ≤ 4) (hl : 1 ≤ late) :
    ∃ rows p' r' s', rows.length = seats.toNat ∧ Rws rows many ∧ 0 ≤ p' ∧ f_law_record [.loc 1, .int seats, .int many, .int late] (dst ns p r s ++ J) = .ok (rowsD rows) (dst ns p' r' s' ++ J) := by
  obtain ⟨rule, p1, r1, s1, hr, hrr, hp1, e1⟩ := draws_comp (ns := ns) (p := p) (r := r) (s := s) (J := J) (many := many) (v := 12) (e := mL f_law_draw (aCons (mVar 0) (aCons (mVar 2) aNil))) (σ := [some (.loc 1), some (.int seats), some (.int many), some (.int late), none, none, none, none, none, none, none, none, none]) hp (by omega) (by omega) (fun k S => by simp [wipeD])
  obtain ⟨J1, hJ1⟩ : ∃ J1, J1 = J ++ [O.lst (rule.map D.int)] := ⟨_, rfl⟩
  obtain ⟨by_, p2, r2, s2, mb, hp2, e2⟩ := pickI_eq ns p1 r1 s1 J1 [late, late, 1, 2] (by simp) (by simp) hp1
  obtain ⟨J2, hJ2⟩ : ∃ J2, J2 = J1 ++ [O.lst ([late, late, 1, 2].map D.int)] := ⟨_, rfl⟩
  obtain ⟨noise, p3, r3, s3, mn, hp3, e3⟩ := pickI_eq ns p2 r2 s2 J2 [1, 2, 4, 9] (by simp) (by simp) hp2
  obtain ⟨J3, hJ3⟩ : ∃ J3, J3 = J2 ++ [O.lst ([1, 2, 4, 9].map D.int)] := ⟨_, rfl⟩
  obtain ⟨size, p4, r4, s4, ms, hp4, e4⟩ := pickI_eq ns p3 r3 s3 J3 [1, 2, 3, 5, 8, 12, 24, 0] (by simp) (by simp) hp3
  obtain ⟨J4, hJ4⟩ : ∃ J4, J4 = J3 ++ [O.lst ([1, 2, 3, 5, 8, 12, 24, 0].map D.int)] := ⟨_, rfl⟩
  obtain ⟨u, p5, r5, s5, _, _, hp5, e5⟩ := draw_eq ns p4 r4 s4 J4 4 (by omega) (by omega) hp4
  have hb := m1129 hl mb
  have hn := m124 mn
  have hs := msize ms
  obtain ⟨rows, p6, r6, s6, l', t', hlen, hR, hp6, e6⟩ := rec_loop (ns := ns) (p := p5) (r := r5) (s := s5) (J := J4) (many := many) (size := size) (noise := noise) (by_ := by_) (seats := seats) (rule := rule) (late := .int late) (un := decide (u = 0)) (z := none) hp5 hs.1 hs.2 hm hm4 hn.1 hn.2 hb hr hrr h0 h4
  refine ⟨rows, p6, r6, s6, hlen, hR, hp6, ?_⟩
  rw [← hJ1] at e1
  rw [← hJ2] at e2
  rw [← hJ3] at e3
  rw [← hJ4] at e4
  have g1 : J1[J.length]? = some (.lst (rule.map D.int)) := by rw [hJ1]; simp
  have l1 : J1.length = J.length + 1 := by rw [hJ1]; simp
  have q2 : J1 ++ [O.lst [D.int late, D.int late, D.int 1, D.int 2]] = J2 := hJ2.symm
  have q3 : J2 ++ [O.lst [D.int 1, D.int 2, D.int 4, D.int 9]] = J3 := hJ3.symm
  have q4 : J3 ++ [O.lst [D.int 1, D.int 2, D.int 3, D.int 5, D.int 8, D.int 12, D.int 24, D.int 0]] = J4 := hJ4.symm
  have g6 : (dst ns p6 r6 s6 ++ (J4 ++ [O.lst (rows.map rowD)]))[2 + J4.length]? = some (.lst (rows.map rowD)) := by simp
  have hrow : D.tup (rule.map D.int) = rowD rule := rfl
  have hrows : D.tup (rows.map rowD) = rowsD rows := rfl
  have h3 : -4611686018427387904 ≤ many ∧ many < 4611686018427387904 := by omega
  have h5 : -4611686018427387904 ≤ seats ∧ seats < 4611686018427387904 := by omega
  have hJall : ∃ K, J4 ++ [O.lst (rows.map rowD)] = J ++ K := by
    rw [hJ4, hJ3, hJ2, hJ1]
    exact ⟨[O.lst (rule.map D.int), O.lst ([late, late, 1, 2].map D.int), O.lst ([1, 2, 4, 9].map D.int), O.lst ([1, 2, 3, 5, 8, 12, 24, 0].map D.int), O.lst (rows.map rowD)], by simp⟩
  clear hJ1 hJ2 hJ3 hJ4
  generalize hN : many.toNat = N at *
  generalize hN2 : seats.toNat = N2 at *
  simp [f_law_record, runB, m_law_record, sizeLine_eq, h3, hN, e1, g1, hrow, q2, e2, q3, e3, q4, e4, e5, h5, hN2, e6, hrows]
  obtain ⟨K, hK⟩ := hJall
  rw [hK]
  exact trim_dst2 (by simp)
/-! ### the bent table -/
theorem bent_eq {ns : List Int} {p r s : Int} {J : Sto} {many : Int} {table : List Int} (hp : 0 ≤ p) (hm : 2 ≤ many) (hm4 : many ≤ 4) (hT : len table = many) :
    ∃ t' p' r' s', len t' = many ∧ 0 ≤ p' ∧ f_law_bent_table [.loc 1, rowD table, .int many] (dst ns p r s ++ J) = .ok (rowD t') (dst ns p' r' s' ++ J) := by
  obtain ⟨a, p1, r1, s1, ha0, ha1, hp1, e1⟩ := draw_eq ns p r s J many (by omega) (by omega) hp
  obtain ⟨b, p2, r2, s2, hb0, hb1, hp2, e2⟩ := draw_eq ns p1 r1 s1 J (many - 1) (by omega) (by omega) hp1
  have e3 := fun S => sub_row (r := table) (i := a) ha0 (by rw [hT]; exact ha1) S
  have hm0 : many ≠ 0 := by omega
  generalize hk : (at_ table a + 1 + b).fmod many = k
  have hlen : (table.length : Int) = many := by rw [← len_eq]; exact hT
  have c1 := cut_to (r := table) (i := a) ha0 (by omega)
  have c2 := cut_from (r := table) (i := a + 1) (by omega) (by omega)
  have e4 : ∀ S, fAdd (rowD (table.take a.toNat)) (.tup [.int k]) S = .ok (rowD (table.take a.toNat ++ [k])) S := fun S => add_row (a := table.take a.toNat) (b := [k]) (by rw [List.length_take]; simp; omega) S
  have e5 : ∀ S, fAdd (rowD (table.take a.toNat ++ [k])) (rowD (table.drop (a + 1).toNat)) S = .ok (rowD (table.take a.toNat ++ [k] ++ table.drop (a + 1).toNat)) S := fun S => add_row (by simp; omega) S
  refine ⟨table.take a.toNat ++ [k] ++ table.drop (a + 1).toNat, p2, r2, s2, by rw [len_eq]; simp; omega, hp2, ?_⟩
  generalize table.take a.toNat = u1 at *
  generalize table.drop (a + 1).toNat = u2 at *
  simp [f_law_bent_table, runB, m_law_bent_table, e1, e2, e3, hm0, hk, sl_row, c1, c2, sizeLine_eq, e4, e5]
  rw [List.append_assoc] at *
  exact trim_dst (d := rowD (u1 ++ (k :: u2))) (by simp)
end G
set_option linter.all false
set_option maxRecDepth 100000
set_option maxHeartbeats 4000000
namespace G
open PySem PySem.Spec PyProof.Rows L2 FL
/-! ### guesses -/
def kd (row : List Int) (m : Nat) : List (Key × D) := (List.range m).map fun (i : Nat) => (.inl (i : Int), .int (at_ row (i : Int)))
theorem kd_none (row : List Int) (m : Nat) (j : Int) (h : (m : Int) ≤ j) : (kd row m).find? (fun kv => decide (kv.1 = .inl j)) = none := by
  rw [List.find?_eq_none]
  intro e he hd
  obtain ⟨i, hi, rfl⟩ := List.mem_map.mp he
  have hi := List.mem_range.mp hi
  have := of_decide_eq_true hd
  injection this with this
  omega
theorem kd_put (row : List Int) (m : Nat) : putD (kd row m) (.inl (m : Int)) (.int (at_ row (m : Int))) = kd row (m + 1) := by
  unfold putD
  rw [if_neg ?h]
  · simp [kd, List.range_succ]
  · intro h
    obtain ⟨e, he, hd⟩ := List.any_eq_true.mp h
    have := List.find?_eq_none.mp (kd_none row m m (by omega)) e he
    exact this hd
theorem kd_val (row : List Int) (m : Nat) (j : Int) (h0 : 0 ≤ j) : valD (kd row m) (.inl j) = if j < m then some (.int (at_ row j)) else none := by
  induction m with
  | zero => rw [if_neg (by omega)]; rfl
  | succ m ih =>
    have e : kd row (m + 1) = kd row m ++ [(.inl (m : Int), .int (at_ row (m : Int)))] := by simp [kd, List.range_succ]
    rw [e]
    unfold valD at ih ⊢
    rw [List.find?_append]
    by_cases h : j < m
    · rw [if_pos h] at ih
      rw [if_pos (by omega)]
      cases hf : (kd row m).find? (fun kv => decide (kv.1 = .inl j)) with
      | none => rw [hf] at ih; cases ih
      | some x => rw [hf] at ih; exact ih
    · rw [kd_none row m j (by omega)]
      by_cases h2 : j = m
      · subst h2; rw [if_pos (by omega)]; simp
      · have h3 : ¬ ((m : Int) = j) := fun z => h2 z.symm
        rw [if_neg (by omega)]; simp [h3]
theorem lk_eq {S : Sto} {n : Nat} {row : List Int} {tick late : Int} (hS : S[n]? = some (.dK (kd row (tick - late + 1).toNat))) (hl : 1 ≤ late) (h0 : 0 ≤ tick) (h1 : tick ≤ 1000) :
    flast_known [.loc n, .int tick] S = .ok (if late ≤ tick then .int (tick - late) else .non) S := by
  have h2 : -4611686018427387904 ≤ tick - 1 ∧ tick - 1 < 4611686018427387904 := by omega
  have hitem : ∀ (i : Nat) (d : D), (dnD (tick - 1) tick.toNat)[i]? = some d → ∃ j : Int, j = tick - 1 - i ∧ 0 ≤ j ∧ d = .int j := by
    intro i d hd
    rw [dnD_get] at hd
    split at hd
    · cases hd; exact ⟨_, rfl, by omega, rfl⟩
    · cases hd
  have hlen : (dnD (tick - 1) tick.toNat).length = tick.toNat := by simp [dnD]
  have hno : ∀ (j : Int) (σx : Option D), 0 ≤ j → tick - late < j → mlast_known_b1 [some (.loc n), some (.int tick), some (.int j)] S = .nx [some (.loc n), some (.int tick), some (.int j)] S := by
    intro j _ hj0 hj
    have hv := kd_val row (tick - late + 1).toNat j hj0
    rw [if_neg (by omega)] at hv
    simp [mlast_known_b1, hS, hv]
  by_cases h : late ≤ tick
  · rw [if_pos h]
    obtain ⟨v, S', e, rfl, rfl⟩ := for_ret (src := .its (dnD (tick - 1) tick.toNat)) (g := gN 2) (b := mlast_known_b1) (σ := [some (.loc n), some (.int tick), none]) (S := S)
      (fun i σ S' => S' = S ∧ ∃ x, σ = [some (.loc n), some (.int tick), x]) (late - 1).toNat (fun v S' => v = .int (tick - late) ∧ S' = S) (by rw [Src.items, hlen]; omega) ⟨rfl, none, rfl⟩ (fun _ _ _ _ => trivial)
      (by
        intro i d σ S' hi hd p
        obtain ⟨rfl, x, rfl⟩ := p
        obtain ⟨j, hj, hj0, rfl⟩ := hitem i d hd
        exact ⟨_, _, .inl (nx_of (hno j none hj0 (by omega))), rfl, _, rfl⟩)
      (by
        intro d σ S' hd p
        obtain ⟨rfl, x, rfl⟩ := p
        obtain ⟨j, hj, hj0, rfl⟩ := hitem _ d hd
        have hj2 : j = tick - late := by omega
        subst hj2
        have hv := kd_val row (tick - late + 1).toNat (tick - late) hj0
        rw [if_pos (by omega)] at hv
        have e : mlast_known_b1 [some (.loc n), some (.int tick), some (.int (tick - late))] S' = .ret (.int (tick - late)) S' := by
          simp [mlast_known_b1, hS, hv]
        exact ⟨_, _, nx_of e, rfl, rfl⟩)
    rw [Src.items] at e
    generalize hN : tick.toNat = N at *
    simp [flast_known, runB, mlast_known, h2, hN, e, trim_self]
  · rw [if_neg h]
    obtain ⟨σ', S', e, rfl, x, rfl⟩ := for_src (src := .its (dnD (tick - 1) tick.toNat)) (g := gN 2) (b := mlast_known_b1) (σ := [some (.loc n), some (.int tick), none]) (S := S)
      (fun i σ S' => S' = S ∧ ∃ x, σ = [some (.loc n), some (.int tick), x]) ⟨rfl, none, rfl⟩ (fun _ _ _ _ => trivial)
      (by
        intro i d σ S' hd p
        obtain ⟨rfl, x, rfl⟩ := p
        obtain ⟨j, hj, hj0, rfl⟩ := hitem i d hd
        exact ⟨_, _, .inl (nx_of (hno j none hj0 (by omega))), rfl, _, rfl⟩)
    rw [Src.items] at e
    generalize hN : tick.toNat = N at *
    simp [flast_known, runB, mlast_known, h2, hN, e, trim_self]
theorem go_eq {S : Sto} {n : Nat} {row table : List Int} {tick late many : Int} (hS : S[n]? = some (.dK (kd row (tick - late + 1).toNat))) (hl : 1 ≤ late) (h0 : 0 ≤ tick) (h1 : tick < len row) (hlen : len row ≤ 24) (hm : 2 ≤ many) (hT : len table = many) (hk : ∀ x ∈ row, 0 ≤ x ∧ x < many) :
    fguess_of [rowD table, .loc n, .int tick] S = .ok (.int (at_ table (kk row late tick))) S := by
  have e1 := lk_eq hS hl h0 (by omega)
  have e2 := fun S => sub_row (r := table) (i := 0) (by omega) (by omega) S
  have hz : ¬ len table = 0 := by omega
  by_cases h : late ≤ tick
  · rw [if_pos h] at e1
    have hv := kd_val row (tick - late + 1).toNat (tick - late) (by omega)
    rw [if_pos (by omega)] at hv
    have hx := hk _ (at_mem (r := row) (i := tick - late) (by omega) (by omega))
    have hk2 : kk row late tick = at_ row (tick - late) := by simp [kk, h]
    rw [hk2]
    generalize at_ row (tick - late) = x at *
    have hmod : Int.fmod x (len table) = x := by rw [Int.fmod_eq_emod_of_nonneg _ (by omega)]; exact Int.emod_eq_of_lt hx.1 (by omega)
    have e3 := fun S => sub_row (r := table) (i := x) hx.1 (by omega) S
    simp [fguess_of, runB, mguess_of, e1, hS, hv, hz, hmod, e3, trim_self]
  · rw [if_neg h] at e1
    have hk2 : kk row late tick = 0 := by simp [kk, h]
    rw [hk2]
    simp [fguess_of, runB, mguess_of, e1, e2, trim_self]
theorem isint_eq (a : Int) (S : Sto) : f_law_is_int [.int a] S = .ok (.bl true) S := by
  simp [f_law_is_int, runB, m_law_is_int, kit_ii, kit_ib, trim_self]
theorem gr_fill {S0 : Sto} {row : List Int} {table late tick : D} {m : Int} {x y : Option D} (h0 : 0 ≤ m) (h1 : m ≤ len row) (hl : len row ≤ 24) :
    ∃ x', forL (.its (rgD 0 m.toNat)) (gN 5) m_law_guesses_right_b1 (rgD 0 m.toNat) [some table, some (rowD row), some late, some tick, some (.loc S0.length), x, y] (S0 ++ [.dK []]) =
      .nx [some table, some (rowD row), some late, some tick, some (.loc S0.length), x', y] (S0 ++ [.dK (kd row m.toNat)]) := by
  obtain ⟨σ', S', e, x', rfl, rfl⟩ := for_rg (lo := 0) (n := m.toNat) (g := gN 5) (b := m_law_guesses_right_b1) (σ := [some table, some (rowD row), some late, some tick, some (.loc S0.length), x, y]) (S := S0 ++ [.dK []])
    (fun i σ S' => ∃ x', σ = [some table, some (rowD row), some late, some tick, some (.loc S0.length), x', y] ∧ S' = S0 ++ [.dK (kd row i)])
    ⟨x, rfl, rfl⟩ (by
      intro i σ S' hi p
      obtain ⟨x', rfl, rfl⟩ := p
      have e0 : (0 : Int) + i = i := Int.zero_add _
      have hz : (kd row i).length < 16777216 := by simp [kd]; omega
      have hp := kd_put row i
      have e1 := fun S => sub_row (r := row) (i := (i : Int)) (by omega) (by omega) S
      rw [e0]
      generalize kd row i = kv at *
      generalize (i : Int) = k at *
      have e : m_law_guesses_right_b1 [some table, some (rowD row), some late, some tick, some (.loc S0.length), some (.int k), y] (S0 ++ [.dK kv]) = .nx [some table, some (rowD row), some late, some tick, some (.loc S0.length), some (.int k), y] (S0 ++ [.dK (kd row (i + 1))]) := by
        simp [m_law_guesses_right_b1, e1, sizeLine_eq, hz, hp]
      exact ⟨_, _, .inl (nx_of e), _, rfl, rfl⟩)
  exact ⟨x', e⟩
theorem gr_step {S0 : Sto} {row table : List Int} {tick late many : Int} {x y z : Option D} (hl : 1 ≤ late) (h0 : 0 ≤ tick) (h1 : tick < len row) (hlen : len row ≤ 24) (hm : 2 ≤ many) (hT : len table = many) (hk : ∀ x ∈ row, 0 ≤ x ∧ x < many) (hl24 : late ≤ 24) :
    ∃ x' y' z' J, m_law_guesses_right_b2 [some (rowD table), some (rowD row), some (.int late), some (.int tick), x, y, z] S0 = .nx [some (rowD table), some (rowD row), some (.int late), some (.int tick), x', y', z'] (S0 ++ J) := by
  have h2 : -4611686018427387904 ≤ tick - late + 1 ∧ tick - late + 1 < 4611686018427387904 := by omega
  have hfill : ∃ y', forL (.its (rgD 0 (tick - late + 1).toNat)) (gN 5) m_law_guesses_right_b1 (rgD 0 (tick - late + 1).toNat) [some (rowD table), some (rowD row), some (.int late), some (.int tick), some (.loc S0.length), y, z] (S0 ++ [.dK []]) =
      .nx [some (rowD table), some (rowD row), some (.int late), some (.int tick), some (.loc S0.length), y', z] (S0 ++ [.dK (kd row (tick - late + 1).toNat)]) := by
    by_cases h : 0 ≤ tick - late + 1
    · exact gr_fill h (by omega) hlen
    · have e : (tick - late + 1).toNat = 0 := by omega
      rw [e]
      exact ⟨y, rfl⟩
  obtain ⟨y', ef⟩ := hfill
  have e1 := go_eq (S := S0 ++ [.dK (kd row (tick - late + 1).toNat)]) (n := S0.length) (row := row) (table := table) (tick := tick) (late := late) (many := many) (by simp) hl h0 h1 hlen hm hT hk
  have e2 := fun S => kk_eq (row := row) (late := late) (tick := tick) (by omega) h0 h1 S
  have hkk := kk_mem (late := late) (by omega : 0 < many) (by omega) h0 h1 hk
  have e3 := fun S => sub_row (r := table) (i := kk row late tick) hkk.1 (by omega) S
  generalize kk row late tick = q at *
  generalize at_ table q = v at *
  generalize kd row (tick - late + 1).toNat = kv at *
  generalize hN : (tick - late + 1).toNat = N at *
  refine ⟨some (.loc S0.length), y', some (.int v), [.dK kv], ?_⟩
  simp [m_law_guesses_right_b2, h2, hN, ef, e1, isint_eq, e2, e3]
theorem gr_loop {S : Sto} {row table : List Int} {late many : Int} (hl : 1 ≤ late) (hlen : len row ≤ 24) (hm : 2 ≤ many) (hT : len table = many) (hk : ∀ x ∈ row, 0 ≤ x ∧ x < many) (hl24 : late ≤ 24) :
    ∃ t x y z J, forL (.its (rgD 0 (len row).toNat)) (gN 3) m_law_guesses_right_b2 (rgD 0 (len row).toNat) [some (rowD table), some (rowD row), some (.int late), none, none, none, none] S = .nx [some (rowD table), some (rowD row), some (.int late), t, x, y, z] (S ++ J) := by
  have h := for_row (r := row) (g := gN 3) (b := m_law_guesses_right_b2) (σ := [some (rowD table), some (rowD row), some (.int late), none, none, none, none]) (S := S)
    (fun i σ S' => ∃ t x y z J, σ = [some (rowD table), some (rowD row), some (.int late), t, x, y, z] ∧ S' = S ++ J)
    ⟨none, none, none, none, [], rfl, by simp⟩ (by
      intro i k σ S' hik h0 hi p
      obtain ⟨t, x, y, z, J, rfl, rfl⟩ := p
      have e0 : (0 : Int) + k = k := Int.zero_add k
      rw [e0]
      obtain ⟨x', y', z', J', e⟩ := gr_step (S0 := S ++ J) (row := row) (table := table) (tick := k) (late := late) (many := many) (x := x) (y := y) (z := z) hl h0 hi hlen hm hT hk hl24
      exact ⟨_, _, .inl (nx_of e), some (.int k), x', y', z', J ++ J', rfl, List.append_assoc _ _ _⟩)
  obtain ⟨σ', S', e, t, x, y, z, J, h1, h2⟩ := h
  rw [h1, h2] at e
  exact ⟨t, x, y, z, J, e⟩
theorem gr_m {S : Sto} {T R : D} {late L : Int} {N : Nat} {t x y z : Option D} {J : Sto} (h1 : -4611686018427387904 ≤ L ∧ L < 4611686018427387904) (h2 : ∀ S, fLen [R] S = .ok (.int L) S) (hN : L.toNat = N)
    (e : forL (.its (rgD 0 N)) (gN 3) m_law_guesses_right_b2 (rgD 0 N) [some T, some R, some (.int late), none, none, none, none] S = .nx [some T, some R, some (.int late), t, x, y, z] (S ++ J)) :
    m_law_guesses_right [some T, some R, some (.int late), none, none, none, none] S = .ret (.bl true) (S ++ J) := by
  simp [m_law_guesses_right, h1, h2, hN, e]
theorem gr_f {S : Sto} {T R : D} {late : Int} {J : Sto} (e : m_law_guesses_right [some T, some R, some (.int late), none, none, none, none] S = .ret (.bl true) (S ++ J)) : f_law_guesses_right [T, R, .int late] S = .ok (.bl true) S := by
  have e2 : ([T, R, D.int late].map some ++ List.replicate (7 - 3) none : Sd) = [some T, some R, some (.int late), none, none, none, none] := rfl
  unfold f_law_guesses_right runB
  rw [e2, e]
  exact trim_pre (by simp)
theorem gr_eq {S : Sto} {row table : List Int} {late many : Int} (hl : 1 ≤ late) (hlen : len row ≤ 24) (hm : 2 ≤ many) (hT : len table = many) (hk : ∀ x ∈ row, 0 ≤ x ∧ x < many) (hl24 : late ≤ 24) :
    f_law_guesses_right [rowD table, rowD row, .int late] S = .ok (.bl true) S := by
  obtain ⟨t, x, y, z, J, e⟩ := gr_loop (S := S) hl hlen hm hT hk hl24
  exact gr_f (gr_m ⟨by have := len_pos row; omega, by omega⟩ (len_row row) rfl e)
/-! ### the law -/
theorem isints_eq (r : List Int) (hr : r.length ≤ 1000) (S : Sto) : f_law_is_ints [rowD r] S = .ok (.bl true) S := by
  have e := compL_map (src := .its (r.map D.int)) (g := gN 1) (e := mL f_law_is_int (aCons (mVar 1) aNil)) (vs := [1]) (σ := [some (rowD r), none]) (S := S) (fun _ => .bl true) trivial (r.map D.int) (fun d hd => by
    obtain ⟨i, _, rfl⟩ := List.mem_map.mp hd
    exact ⟨_, rfl, by simp [wipeD, isint_eq]⟩) (by rw [List.length_map, sizeLine_eq]; omega)
  have e2 : ((r.map D.int).map fun _ => D.bl true) = (r.map fun _ => true).map D.bl := by rw [List.map_map, List.map_map]; rfl
  rw [e2] at e
  have e3 : (r.map fun _ => true).all id = true := by simp
  have hk : kitB "tuple" "tuple" = some true := by decide +kernel
  unfold rowD at e ⊢
  generalize (r.map fun _ => true) = bs at *
  simp [f_law_is_ints, runB, m_law_is_ints, hk, e, blsD_map, e3]
  exact trim_pre (by simp)
end G
set_option linter.all false
set_option maxRecDepth 100000
set_option maxHeartbeats 4000000
namespace G
open PySem PySem.Spec PyProof.Rows L2 FL
section
variable {S : Sto} {sc dd seats told other key : Option D} {many late : Int} {rows : List (List Int)}
theorem lb1_new {T : List Int} {f : Int} {w : Option D} {m : D} {W : Int} (hw : f_law_wrong [rowD T, rowsD rows, .int late] S = .ok (.int W) S) :
    mlaw_b1 [sc, dd, some m, seats, some (.int late), some (rowsD rows), some .non, some (.int f), some (rowD T), w, told, other, key] S =
      .nx [sc, dd, some m, seats, some (.int late), some (rowsD rows), some (rowD T), some (.int W), some (rowD T), some (.int W), told, other, key] S := by
  simp [mlaw_b1, hw]
theorem lb1_old {T : List Int} {f : Int} {w : Option D} {m : D} {W : Int} {bs : List D} (hw : f_law_wrong [rowD T, rowsD rows, .int late] S = .ok (.int W) S) :
    mlaw_b1 [sc, dd, some m, seats, some (.int late), some (rowsD rows), some (.tup bs), some (.int f), some (rowD T), w, told, other, key] S =
      (if W < f then .nx [sc, dd, some m, seats, some (.int late), some (rowsD rows), some (rowD T), some (.int W), some (rowD T), some (.int W), told, other, key] S else .nx [sc, dd, some m, seats, some (.int late), some (rowsD rows), some (.tup bs), some (.int f), some (rowD T), some (.int W), told, other, key] S) := by
  by_cases h : W < f
  · simp [mlaw_b1, hw, h]
  · simp [mlaw_b1, hw, h]
theorem l1_loop {L : List (List Int)} {B : List Int} {w : List Int → Int} {m : D} {n : Nat} (hS : S[n]? = some (.lst (L.map rowD))) (hF : FM w L B) (hw : ∀ T ∈ L, f_law_wrong [rowD T, rowsD rows, .int late] S = .ok (.int (w T)) S) :
    ∃ x y, forL (.at_ n (.lst (L.map rowD)) (L.map rowD)) (gN 8) mlaw_b1 (L.map rowD) [sc, dd, some m, seats, some (.int late), some (rowsD rows), some .non, some (.int 0), none, none, told, other, key] S =
      .nx [sc, dd, some m, seats, some (.int late), some (rowsD rows), some (rowD B), some (.int (w B)), x, y, told, other, key] S := by
  obtain ⟨l1, l2, hL, h1, h2⟩ := hF
  have h := for_src (src := .at_ n (.lst (L.map rowD)) (L.map rowD)) (g := gN 8) (b := mlaw_b1) (σ := [sc, dd, some m, seats, some (.int late), some (rowsD rows), some .non, some (.int 0), none, none, told, other, key]) (S := S)
    (fun i σ S' => S' = S ∧ ∃ b f x y, σ = [sc, dd, some m, seats, some (.int late), some (rowsD rows), some b, some (.int f), x, y, told, other, key] ∧
      ((i = 0 ∧ b = .non) ∨ (0 < i ∧ i ≤ l1.length ∧ (∃ T, b = rowD T) ∧ w B < f) ∨ (l1.length < i ∧ b = rowD B ∧ f = w B)))
    ⟨rfl, .non, 0, none, none, rfl, .inl ⟨rfl, rfl⟩⟩ (fun i σ S' p => by rw [p.1]; exact hS) (by
      intro i d σ S' hd p
      obtain ⟨rfl, b, f, x, y, rfl, hc⟩ := p
      have hd : (L.map rowD)[i]? = some d := hd
      rw [List.getElem?_map, Option.map_eq_some_iff] at hd
      obtain ⟨T, hT, rfl⟩ := hd
      have hwT := hw T (List.mem_of_getElem? hT)
      rw [hL] at hT
      -- where the table stands
      have hpos : (i < l1.length ∧ w B < w T) ∨ (i = l1.length ∧ T = B) ∨ (l1.length < i ∧ w B ≤ w T) := by
        rcases Nat.lt_trichotomy i l1.length with h | h | h
        · rw [List.getElem?_append_left h] at hT
          exact .inl ⟨h, h1 T (List.mem_of_getElem? hT)⟩
        · subst h
          rw [List.getElem?_append_right (Nat.le_refl _)] at hT
          simp at hT
          exact .inr (.inl ⟨rfl, hT.symm⟩)
        · rw [List.getElem?_append_right (by omega)] at hT
          obtain ⟨j, hj⟩ : ∃ j, i - l1.length = j + 1 := ⟨i - l1.length - 1, by omega⟩
          rw [hj, List.getElem?_cons_succ] at hT
          exact .inr (.inr ⟨h, h2 T (List.mem_of_getElem? hT)⟩)
      rcases hc with ⟨rfl, rfl⟩ | ⟨hi0, hi1, ⟨T0, rfl⟩, hf⟩ | ⟨hi, rfl, rfl⟩
      · refine ⟨_, _, .inl (nx_of (lb1_new hwT)), rfl, rowD T, w T, _, _, rfl, ?_⟩
        rcases hpos with ⟨h, hh⟩ | ⟨h, rfl⟩ | ⟨h, hh⟩
        · exact .inr (.inl ⟨by omega, by omega, ⟨T, rfl⟩, hh⟩)
        · exact .inr (.inr ⟨by omega, rfl, rfl⟩)
        · omega
      · have e := lb1_old (S := S') (sc := sc) (dd := dd) (seats := seats) (told := told) (other := other) (key := key) (late := late) (rows := rows) (T := T) (f := f) (w := y) (m := m) (W := w T) (bs := T0.map D.int) hwT
        by_cases hlt : w T < f
        · rw [if_pos hlt] at e
          refine ⟨_, _, .inl (nx_of e), rfl, rowD T, w T, _, _, rfl, ?_⟩
          rcases hpos with ⟨h, hh⟩ | ⟨h, rfl⟩ | ⟨h, hh⟩
          · exact .inr (.inl ⟨by omega, by omega, ⟨T, rfl⟩, hh⟩)
          · exact .inr (.inr ⟨by omega, rfl, rfl⟩)
          · omega
        · rw [if_neg hlt] at e
          refine ⟨_, _, .inl (nx_of e), rfl, rowD T0, f, _, _, rfl, ?_⟩
          rcases hpos with ⟨h, hh⟩ | ⟨h, rfl⟩ | ⟨h, hh⟩
          · exact .inr (.inl ⟨by omega, by omega, ⟨T0, rfl⟩, hf⟩)
          · exact absurd hf hlt
          · omega
      · have e := lb1_old (S := S') (sc := sc) (dd := dd) (seats := seats) (told := told) (other := other) (key := key) (late := late) (rows := rows) (T := T) (f := w B) (w := y) (m := m) (W := w T) (bs := B.map D.int) hwT
        have hlt : ¬ w T < w B := by
          rcases hpos with ⟨h, hh⟩ | ⟨h, rfl⟩ | ⟨h, hh⟩ <;> omega
        rw [if_neg hlt] at e
        exact ⟨_, _, .inl (nx_of e), rfl, rowD B, w B, _, _, rfl, .inr (.inr ⟨by omega, rfl, rfl⟩)⟩)
  obtain ⟨σ', S', e, rfl, b, f, x, y, rfl, hc⟩ := h
  have hlen : (Src.at_ n (.lst (L.map rowD)) (L.map rowD)).items.length = l1.length + 1 + l2.length := by
    simp [hL]; omega
  rw [hlen] at hc
  rcases hc with ⟨h, _⟩ | ⟨_, h, _⟩ | ⟨_, rfl, rfl⟩
  · omega
  · omega
  · exact ⟨x, y, e⟩
theorem lb2 {T : List Int} {w b f : Option D} {m : D} {W : Int} (hw : ∀ S, f_law_wrong [rowD T, rowsD rows, .int late] S = .ok (.int W) S) (hg : ∀ S, fwrong_guesses [rowD T, rowsD rows, .int late] S = .ok (.int W) S) :
    mlaw_b2 [sc, dd, some m, seats, some (.int late), some (rowsD rows), b, f, some (rowD T), w, told, other, key] S =
      .nx [sc, dd, some m, seats, some (.int late), some (rowsD rows), b, f, some (rowD T), some (.int W), told, other, key] S := by
  simp [mlaw_b2, hw, hg, isint_eq]
theorem l2_loop {L : List (List Int)} {b f x y : Option D} {m : D} {n : Nat} (hS : S[n]? = some (.lst (L.map rowD))) (hm : 0 < many) (hl : 0 ≤ late) (hn : rows.length ≤ 4) (hR : Rws rows many) (hT : ∀ T ∈ L, len T = many) :
    ∃ x' y', forL (.at_ n (.lst (L.map rowD)) (L.map rowD)) (gN 8) mlaw_b2 (L.map rowD) [sc, dd, some m, seats, some (.int late), some (rowsD rows), b, f, x, y, told, other, key] S =
      .nx [sc, dd, some m, seats, some (.int late), some (rowsD rows), b, f, x', y', told, other, key] S := by
  have h := for_src (src := .at_ n (.lst (L.map rowD)) (L.map rowD)) (g := gN 8) (b := mlaw_b2) (σ := [sc, dd, some m, seats, some (.int late), some (rowsD rows), b, f, x, y, told, other, key]) (S := S)
    (fun i σ S' => S' = S ∧ ∃ x y, σ = [sc, dd, some m, seats, some (.int late), some (rowsD rows), b, f, x, y, told, other, key])
    ⟨rfl, x, y, rfl⟩ (fun i σ S' p => by rw [p.1]; exact hS) (by
      intro i d σ S' hd p
      obtain ⟨rfl, x, y, rfl⟩ := p
      have hd : (L.map rowD)[i]? = some d := hd
      rw [List.getElem?_map, Option.map_eq_some_iff] at hd
      obtain ⟨T, hT', rfl⟩ := hd
      have hlT := hT T (List.mem_of_getElem? hT')
      exact ⟨_, _, .inl (nx_of (lb2 (fun S => wr_eq hm hl hR.hr hR.hk hlT S) (fun S => wg_eq hm hl hn hR.hr hR.hk hlT S))), rfl, _, _, rfl⟩)
  obtain ⟨σ', S', e, rfl, x', y', rfl⟩ := h
  exact ⟨x', y', e⟩
end
theorem mm {x : Int} (h : x ∈ [(2 : Int), 3, 2, 4, 3]) : 2 ≤ x ∧ x ≤ 4 := by
  simp only [List.mem_cons, List.not_mem_nil, or_false] at h
  omega
theorem ms {x : Int} (h : x ∈ [(1 : Int), 2, 2, 3, 4]) : 1 ≤ x ∧ x ≤ 4 := by
  simp only [List.mem_cons, List.not_mem_nil, or_false] at h
  omega
theorem ml {k x : Int} (hk : 0 ≤ k) (hk2 : k < 24) (h : x ∈ [(1 : Int), 1, 2, 3, 1 + k]) : 1 ≤ x ∧ x ≤ 24 := by
  simp only [List.mem_cons, List.not_mem_nil, or_false] at h
  omega
theorem law_eval {ns : List Int} {J0 J1 J2 J3 J4 J5 J6 : Sto} {many seats k late p1 r1 s1 p2 r2 s2 p3 r3 s3 p4 r4 s4 p5 r5 s5 p6 r6 s6 p7 r7 s7 p8 r8 s8 W : Int} {R B bent oth row : D} {TT : List D} {ol : List Int} {x7 y7 x13 y13 : Option D} {N : Nat}
    (q1 : J0 ++ [O.lst [D.int 2, D.int 3, D.int 2, D.int 4, D.int 3]] = J1)
    (e1 : f_law_pick [D.loc 1, D.loc (2 + J0.length)] (dst ns 0 0 11 ++ J1) = .ok (.int many) (dst ns p1 r1 s1 ++ J1))
    (q2 : J1 ++ [O.lst [D.int 1, D.int 2, D.int 2, D.int 3, D.int 4]] = J2)
    (e2 : f_law_pick [D.loc 1, D.loc (2 + J1.length)] (dst ns p1 r1 s1 ++ J2) = .ok (.int seats) (dst ns p2 r2 s2 ++ J2))
    (e3 : f_law_draw [D.loc 1, D.int 24] (dst ns p2 r2 s2 ++ J2) = .ok (.int k) (dst ns p3 r3 s3 ++ J2))
    (q3 : J2 ++ [O.lst [D.int 1, D.int 1, D.int 2, D.int 3, D.int (1 + k)]] = J3)
    (e4 : f_law_pick [D.loc 1, D.loc (2 + J2.length)] (dst ns p3 r3 s3 ++ J3) = .ok (.int late) (dst ns p4 r4 s4 ++ J3))
    (e5 : f_law_record [D.loc 1, D.int seats, D.int many, D.int late] (dst ns p4 r4 s4 ++ J3) = .ok R (dst ns p5 r5 s5 ++ J3))
    (e6 : f_law_tables [D.int many] (dst ns p5 r5 s5 ++ J3) = .ok (.loc (2 + J3.length)) (dst ns p5 r5 s5 ++ J4))
    (g4 : J4[J3.length]? = some (.lst TT))
    (e7 : forL (.at_ (2 + J3.length) (.lst TT) TT) (gN 8) mlaw_b1 TT [none, some (.loc 1), some (.int many), some (.int seats), some (.int late), some R, some .non, some (.int 0), none, none, none, none, none] (dst ns p5 r5 s5 ++ J4) =
      .nx [none, some (.loc 1), some (.int many), some (.int seats), some (.int late), some R, some B, some (.int W), x7, y7, none, none, none] (dst ns p5 r5 s5 ++ J4))
    (e8 : ∀ S, fbest_table [R, .int many, .int late] S = .ok B S)
    (e9 : ∀ S, f_law_is_ints [B] S = .ok (.bl true) S) (e10 : ∀ S, fEqv true B B S = .ok (.bl false) S)
    (h3 : -4611686018427387904 ≤ many ∧ many < 4611686018427387904) (hN : many.toNat = N)
    (e11 : compL (.its (rgD 0 N)) (gN 12) mYes (mL f_law_draw (aCons (mVar 1) (aCons (mVar 2) aNil))) [12] [none, some (.loc 1), some (.int many), some (.int seats), some (.int late), some R, some B, some (.int W), x7, y7, some B, none, none] (rgD 0 N) [] (dst ns p5 r5 s5 ++ J4) =
      .ok (.loc (2 + J4.length)) (dst ns p6 r6 s6 ++ J5))
    (g5 : J5[J4.length]? = some (.lst (ol.map D.int))) (ho : D.tup (ol.map D.int) = oth)
    (e12 : f_law_bent_table [D.loc 1, B, .int many] (dst ns p6 r6 s6 ++ J5) = .ok bent (dst ns p7 r7 s7 ++ J5))
    (q6 : J5 ++ [O.lst [B, bent, oth]] = J6) (g6 : J6[J5.length]? = some (.lst [B, bent, oth]))
    (e13 : forL (.at_ (2 + J5.length) (.lst [B, bent, oth]) [B, bent, oth]) (gN 8) mlaw_b2 [B, bent, oth] [none, some (.loc 1), some (.int many), some (.int seats), some (.int late), some R, some B, some (.int W), x7, y7, some B, some oth, none] (dst ns p7 r7 s7 ++ J6) =
      .nx [none, some (.loc 1), some (.int many), some (.int seats), some (.int late), some R, some B, some (.int W), x13, y13, some B, some oth, none] (dst ns p7 r7 s7 ++ J6))
    (e14 : f_law_pick [D.loc 1, R] (dst ns p7 r7 s7 ++ J6) = .ok row (dst ns p8 r8 s8 ++ J6))
    (e15 : ∀ S, f_law_guesses_right [oth, row, .int late] S = .ok (.bl true) S) :
    mlaw [none, some (.loc 1), none, none, none, none, none, none, none, none, none, none, none] (dst ns 0 0 11 ++ J0) = .ret (.bl true) (dst ns p8 r8 s8 ++ J6) := by
  simp [mlaw, sizeLine_eq, q1, e1, q2, e2, e3, q3, e4, e5, e6, g4, e7, e8, e9, e10, h3, hN, e11, g5, ho, e12, q6, g6, e13, e14, e15]
theorem law_math : ∀ ns : List Int, ns.length ≤ 63 → ∃ S', mlaw (none :: some (.loc 1) :: List.replicate (Nlaw.length - 2) none) (begSto ns) = .ret (.bl true) S' := fun ns _ => by
  have es : (none :: some (D.loc 1) :: List.replicate (Nlaw.length - 2) none : Sd) = [none, some (.loc 1), none, none, none, none, none, none, none, none, none, none, none] := rfl
  have e0 : begSto ns = dst ns 0 0 11 ++ [] := by rw [beg_dst, List.append_nil]
  rw [es, e0]
  obtain ⟨J0, hJ0⟩ : ∃ J0 : Sto, J0 = [] := ⟨_, rfl⟩
  rw [← hJ0]
  obtain ⟨many, p1, r1, s1, mm', hp1, e1⟩ := pickI_eq ns 0 0 11 J0 [2, 3, 2, 4, 3] (by simp) (by simp) (by omega)
  obtain ⟨J1, hJ1⟩ : ∃ J1, J1 = J0 ++ [O.lst ([2, 3, 2, 4, 3].map D.int)] := ⟨_, rfl⟩
  obtain ⟨seats, p2, r2, s2, ms', hp2, e2⟩ := pickI_eq ns p1 r1 s1 J1 [1, 2, 2, 3, 4] (by simp) (by simp) hp1
  obtain ⟨J2, hJ2⟩ : ∃ J2, J2 = J1 ++ [O.lst ([1, 2, 2, 3, 4].map D.int)] := ⟨_, rfl⟩
  obtain ⟨k, p3, r3, s3, hk0, hk1, hp3, e3⟩ := draw_eq ns p2 r2 s2 J2 24 (by omega) (by omega) hp2
  obtain ⟨late, p4, r4, s4, ml', hp4, e4⟩ := pickI_eq ns p3 r3 s3 J2 [1, 1, 2, 3, 1 + k] (by simp) (by simp) hp3
  obtain ⟨J3, hJ3⟩ : ∃ J3, J3 = J2 ++ [O.lst ([1, 1, 2, 3, 1 + k].map D.int)] := ⟨_, rfl⟩
  have hm := mm mm'
  have hs := ms ms'
  have hl := ml hk0 hk1 ml'
  obtain ⟨rows, p5, r5, s5, hlen, hR, hp5, e5⟩ := record_eq (ns := ns) (p := p4) (r := r4) (s := s4) (J := J3) (many := many) (seats := seats) (late := late) hp4 hm.1 hm.2 hs.1 hs.2 hl.1
  have hn : rows.length ≤ 4 := by omega
  have e6 := tables_eq many (by omega) hm.2 (dst ns p5 r5 s5 ++ J3)
  obtain ⟨J4, hJ4⟩ : ∃ J4, J4 = J3 ++ [O.lst ((tabs many.toNat many.toNat).map rowD)] := ⟨_, rfl⟩
  obtain ⟨B, hB⟩ : ∃ B, B = bestT (tabOf (prsA rows late)) many := ⟨_, rfl⟩
  have hFM := best_first (rows := rows) (late := late) (many := many) (by omega) (by omega) hR.hk
  rw [← hB] at hFM
  have hBmem : B ∈ tabs many.toNat many.toNat := by
    obtain ⟨l1, l2, h, _, _⟩ := hFM
    rw [h]; simp
  have hBl : len B = many := by rw [len_eq, (tabs_mem _ _ B hBmem).1]; omega
  have g4 : J4[J3.length]? = some (.lst ((tabs many.toNat many.toNat).map rowD)) := by rw [hJ4]; simp
  obtain ⟨x7, y7, e7⟩ := l1_loop (S := dst ns p5 r5 s5 ++ J4) (sc := none) (dd := some (.loc 1)) (seats := some (.int seats)) (told := none) (other := none) (key := none) (late := late) (rows := rows) (L := tabs many.toNat many.toNat) (B := B) (m := .int many) (n := 2 + J3.length) (by rw [dst_get]; exact g4) hFM
    (fun T hT => wr_eq (many := many) (by omega) (by omega) hR.hr hR.hk (by rw [len_eq, (tabs_mem _ _ T hT).1]; omega) _)
  have e8 := fun S => bt_eq (rows := rows) (late := late) (many := many) (by omega) hn hR.hr (by omega) (by omega) S
  rw [← hB] at e8
  have e9 := fun S => isints_eq B (by rw [len_eq] at hBl; omega) S
  have e10 := fun S => eqv_row true B B S
  obtain ⟨other, p6, r6, s6, hol, hor, hp6, e11⟩ := draws_comp (ns := ns) (p := p5) (r := r5) (s := s5) (J := J4) (many := many) (v := 12) (e := mL f_law_draw (aCons (mVar 1) (aCons (mVar 2) aNil))) (σ := [none, some (.loc 1), some (.int many), some (.int seats), some (.int late), some (rowsD rows), some (rowD B), some (.int (wrP (fB B) (prsA rows late))), x7, y7, some (rowD B), none, none]) hp5 (by omega) (by omega) (fun k S => by simp [wipeD])
  obtain ⟨J5, hJ5⟩ : ∃ J5, J5 = J4 ++ [O.lst (other.map D.int)] := ⟨_, rfl⟩
  obtain ⟨bent, p7, r7, s7, hbl, hp7, e12⟩ := bent_eq (ns := ns) (p := p6) (r := r6) (s := s6) (J := J5) (many := many) (table := B) hp6 hm.1 hm.2 hBl
  obtain ⟨J6, hJ6⟩ : ∃ J6, J6 = J5 ++ [O.lst ([B, bent, other].map rowD)] := ⟨_, rfl⟩
  have g6 : J6[J5.length]? = some (.lst ([B, bent, other].map rowD)) := by rw [hJ6]; simp
  obtain ⟨x13, y13, e13⟩ := l2_loop (S := dst ns p7 r7 s7 ++ J6) (sc := none) (dd := some (.loc 1)) (seats := some (.int seats)) (told := some (rowD B)) (other := some (rowD other)) (key := none) (late := late) (rows := rows) (many := many) (L := [B, bent, other]) (b := some (rowD B)) (f := some (.int (wrP (fB B) (prsA rows late)))) (x := x7) (y := y7) (m := .int many) (n := 2 + J5.length) (by rw [dst_get]; exact g6) (by omega) (by omega) hn hR
    (fun T hT => by
      simp only [List.mem_cons, List.not_mem_nil, or_false] at hT
      rcases hT with rfl | rfl | rfl
      · exact hBl
      · exact hbl
      · exact hol)
  obtain ⟨rowv, p8, r8, s8, hrm, hp8, e14⟩ := pickT_eq ns p7 r7 s7 J6 (rows.map rowD) (by rw [List.length_map]; omega) (by rw [List.length_map]; omega) hp7 (fun x hx => by
    obtain ⟨r, _, rfl⟩ := List.mem_map.mp hx
    simp)
  obtain ⟨row, hrow, rfl⟩ := List.mem_map.mp hrm
  have e15 := fun S => gr_eq (S := S) (row := row) (table := other) (late := late) (many := many) hl.1 (hR.hr row hrow) hm.1 hol (hR.hk row hrow) hl.2
  have e14' : f_law_pick [D.loc 1, rowsD rows] (dst ns p7 r7 s7 ++ J6) = .ok (rowD row) (dst ns p8 r8 s8 ++ J6) := e14
  rw [← hJ1] at e1
  rw [← hJ2] at e2
  rw [← hJ3] at e4
  rw [List.append_assoc, ← hJ4] at e6
  rw [← hJ5] at e11
  have q1 : J0 ++ [O.lst [D.int 2, D.int 3, D.int 2, D.int 4, D.int 3]] = J1 := hJ1.symm
  have q2 : J1 ++ [O.lst [D.int 1, D.int 2, D.int 2, D.int 3, D.int 4]] = J2 := hJ2.symm
  have q3 : J2 ++ [O.lst [D.int 1, D.int 1, D.int 2, D.int 3, D.int (1 + k)]] = J3 := hJ3.symm
  have q6 : J5 ++ [O.lst [rowD B, rowD bent, rowD other]] = J6 := hJ6.symm
  have g5 : J5[J4.length]? = some (.lst (other.map D.int)) := by rw [hJ5]; simp
  have hother : D.tup (other.map D.int) = rowD other := rfl
  have hnon : ∀ S, fIs false (D.int 0) (D.int 0) S = R.bad := fun S => rfl
  have h3 : -4611686018427387904 ≤ many ∧ many < 4611686018427387904 := by omega
  have e6' : f_law_tables [.int many] (dst ns p5 r5 s5 ++ J3) = .ok (.loc (2 + J3.length)) (dst ns p5 r5 s5 ++ J4) := by
    rw [e6]; simp
  have hL3 : [B, bent, other].map rowD = [rowD B, rowD bent, rowD other] := rfl
  rw [hL3] at e13 g6
  exact ⟨_, law_eval (ol := other) q1 e1 q2 e2 e3 q3 e4 e5 e6' g4 e7 e8 e9 (fun S => by rw [e10]; simp) h3 rfl e11 g5 hother e12 q6 g6 e13 e14' e15⟩
end G
set_option Elab.async false
set_option linter.all false
set_option maxRecDepth 100000
set_option maxHeartbeats 0
namespace G
open PySem PySem.Spec PyProof.Rows L2 FL
def ddcounted_pairs : He.DefD := ⟨("counted_pairs", none), "counted_pairs", "counted_pairs", defArgs scounted_pairs, defBody scounted_pairs, defScope scounted_pairs, [], []⟩
def ddwrong_guesses : He.DefD := ⟨("wrong_guesses", none), "wrong_guesses", "wrong_guesses", defArgs swrong_guesses, defBody swrong_guesses, defScope swrong_guesses, [], []⟩
def ddbest_key : He.DefD := ⟨("best_key", none), "best_key", "best_key", defArgs sbest_key, defBody sbest_key, defScope sbest_key, [], []⟩
def ddbest_table : He.DefD := ⟨("best_table", none), "best_table", "best_table", defArgs sbest_table, defBody sbest_table, defScope sbest_table, [], []⟩
def ddlast_known : He.DefD := ⟨("last_known", none), "last_known", "last_known", defArgs slast_known, defBody slast_known, defScope slast_known, [], []⟩
def ddguess_of : He.DefD := ⟨("guess_of", none), "guess_of", "guess_of", defArgs sguess_of, defBody sguess_of, defScope sguess_of, [], []⟩
def dd_law_draw : He.DefD := ⟨("_law_draw", none), "_law_draw", "_law_draw", defArgs s_law_draw, defBody s_law_draw, defScope s_law_draw, [], []⟩
def dd_law_pick : He.DefD := ⟨("_law_pick", none), "_law_pick", "_law_pick", defArgs s_law_pick, defBody s_law_pick, defScope s_law_pick, [], []⟩
def dd_law_is_int : He.DefD := ⟨("_law_is_int", none), "_law_is_int", "_law_is_int", defArgs s_law_is_int, defBody s_law_is_int, defScope s_law_is_int, [], []⟩
def dd_law_is_ints : He.DefD := ⟨("_law_is_ints", none), "_law_is_ints", "_law_is_ints", defArgs s_law_is_ints, defBody s_law_is_ints, defScope s_law_is_ints, [], []⟩
def dd_law_known_key : He.DefD := ⟨("_law_known_key", none), "_law_known_key", "_law_known_key", defArgs s_law_known_key, defBody s_law_known_key, defScope s_law_known_key, [], []⟩
def dd_law_wrong : He.DefD := ⟨("_law_wrong", none), "_law_wrong", "_law_wrong", defArgs s_law_wrong, defBody s_law_wrong, defScope s_law_wrong, [], []⟩
def dd_law_tables : He.DefD := ⟨("_law_tables", none), "_law_tables", "_law_tables", defArgs s_law_tables, defBody s_law_tables, defScope s_law_tables, [], []⟩
def dd_law_keys_row : He.DefD := ⟨("_law_keys_row", none), "_law_keys_row", "_law_keys_row", defArgs s_law_keys_row, defBody s_law_keys_row, defScope s_law_keys_row, [], []⟩
def dd_law_record : He.DefD := ⟨("_law_record", none), "_law_record", "_law_record", defArgs s_law_record, defBody s_law_record, defScope s_law_record, [], []⟩
def dd_law_bent_table : He.DefD := ⟨("_law_bent_table", none), "_law_bent_table", "_law_bent_table", defArgs s_law_bent_table, defBody s_law_bent_table, defScope s_law_bent_table, [], []⟩
def dd_law_guesses_right : He.DefD := ⟨("_law_guesses_right", none), "_law_guesses_right", "_law_guesses_right", defArgs s_law_guesses_right, defBody s_law_guesses_right, defScope s_law_guesses_right, [], []⟩
def dd_law_begin : He.DefD := ⟨("_law_begin", none), "_law_begin", "_law_begin", defArgs s_law_begin, defBody s_law_begin, defScope s_law_begin, [], []⟩
def ddlaw : He.DefD := ⟨("law", none), "law", "law", defArgs slaw, defBody slaw, defScope slaw, [], []⟩
def fn : List He.DefD := [ddcounted_pairs, ddwrong_guesses, ddbest_key, ddbest_table, ddlast_known, ddguess_of, dd_law_draw, dd_law_pick, dd_law_is_int, dd_law_is_ints, dd_law_known_key, dd_law_wrong, dd_law_tables, dd_law_keys_row, dd_law_record, dd_law_bent_table, dd_law_guesses_right, dd_law_begin, ddlaw]
def fa : List He.Fa := [.glo "counted_pairs", .glo "wrong_guesses", .glo "best_key", .glo "best_table", .glo "last_known", .glo "guess_of", .glo "_law_draw", .glo "_law_pick", .glo "_law_is_int", .glo "_law_is_ints", .glo "_law_known_key", .glo "_law_wrong", .glo "_law_tables", .glo "_law_keys_row", .glo "_law_record", .glo "_law_bent_table", .glo "_law_guesses_right", .glo "_law_begin", .glo "law", .free "abs", .free "all", .free "bool", .free "int", .free "isinstance", .free "len", .free "range", .free "sum", .free "tuple"]
abbrev R : PySem.W.OpenRow := PySem.W.OpenLaw.row PySem.Challenge.rw_judgedplay_k94_best_tables
abbrev hk : PySem.W.Hook := He.hookD 4 fa fn
def ob (s : PySem.W.SharedT) : He.AlD := He.obsDG 4 fa fn (HandSHeadRun.getT s)
theorem ob_eq (s : PySem.W.SharedT) : ob s = hk.obs s.abs := He.obsDG_eq (HandSHeadRun.getT_eq s)
def loose : List PySem.Str := (["counted_pairs", "wrong_guesses", "best_key", "best_table", "last_known", "guess_of", "_law_begin", "_law_draw", "_law_pick", "_law_is_int", "_law_is_ints", "_law_known_key", "_law_wrong", "_law_tables", "_law_keys_row", "_law_record", "_law_bent_table", "_law_guesses_right"] : List PySem.Str)
theorem run (w : World) : HandSHeadRun.RunEq R (PySem.W.view R.prog [21]) hk ob 1480 loose w := by
  intro os
  kernel_rfl
theorem facts {P : Program} {w : World} {K : PySem.W.Frag} {h : Heap} {mg : Str → Option Value} {f : Addr} (X : K.In h) (G : h.Ns mainGlobals mg) (hfa : mg ("law" : Str) = some (.ref f)) (c : He.SaysD fa fn K) :
    ∃ fd : FuncData, (∀ (s : Shared) (v : Value), BindsTo s fd ⟨[v], []⟩ [("script", v)]) ∧ ∀ base : Heap, K.In base → base.Ns mainGlobals mg → FnOk P w K mg base CX0 4 f fd ["script"] (spLaw K) := by
  obtain ⟨fdcounted_pairs, Fcounted_pairs⟩ := c.def_ 0 (d := ddcounted_pairs) rfl
  have gcounted_pairs := He.glo_ok X G (c.fact 0 (f := .glo "counted_pairs") rfl)
  obtain ⟨fdwrong_guesses, Fwrong_guesses⟩ := c.def_ 1 (d := ddwrong_guesses) rfl
  have gwrong_guesses := He.glo_ok X G (c.fact 1 (f := .glo "wrong_guesses") rfl)
  obtain ⟨fdbest_key, Fbest_key⟩ := c.def_ 2 (d := ddbest_key) rfl
  have gbest_key := He.glo_ok X G (c.fact 2 (f := .glo "best_key") rfl)
  obtain ⟨fdbest_table, Fbest_table⟩ := c.def_ 3 (d := ddbest_table) rfl
  have gbest_table := He.glo_ok X G (c.fact 3 (f := .glo "best_table") rfl)
  obtain ⟨fdlast_known, Flast_known⟩ := c.def_ 4 (d := ddlast_known) rfl
  have glast_known := He.glo_ok X G (c.fact 4 (f := .glo "last_known") rfl)
  obtain ⟨fdguess_of, Fguess_of⟩ := c.def_ 5 (d := ddguess_of) rfl
  have gguess_of := He.glo_ok X G (c.fact 5 (f := .glo "guess_of") rfl)
  obtain ⟨fd_law_draw, F_law_draw⟩ := c.def_ 6 (d := dd_law_draw) rfl
  have g_law_draw := He.glo_ok X G (c.fact 6 (f := .glo "_law_draw") rfl)
  obtain ⟨fd_law_pick, F_law_pick⟩ := c.def_ 7 (d := dd_law_pick) rfl
  have g_law_pick := He.glo_ok X G (c.fact 7 (f := .glo "_law_pick") rfl)
  obtain ⟨fd_law_is_int, F_law_is_int⟩ := c.def_ 8 (d := dd_law_is_int) rfl
  have g_law_is_int := He.glo_ok X G (c.fact 8 (f := .glo "_law_is_int") rfl)
  obtain ⟨fd_law_is_ints, F_law_is_ints⟩ := c.def_ 9 (d := dd_law_is_ints) rfl
  have g_law_is_ints := He.glo_ok X G (c.fact 9 (f := .glo "_law_is_ints") rfl)
  obtain ⟨fd_law_known_key, F_law_known_key⟩ := c.def_ 10 (d := dd_law_known_key) rfl
  have g_law_known_key := He.glo_ok X G (c.fact 10 (f := .glo "_law_known_key") rfl)
  obtain ⟨fd_law_wrong, F_law_wrong⟩ := c.def_ 11 (d := dd_law_wrong) rfl
  have g_law_wrong := He.glo_ok X G (c.fact 11 (f := .glo "_law_wrong") rfl)
  obtain ⟨fd_law_tables, F_law_tables⟩ := c.def_ 12 (d := dd_law_tables) rfl
  have g_law_tables := He.glo_ok X G (c.fact 12 (f := .glo "_law_tables") rfl)
  obtain ⟨fd_law_keys_row, F_law_keys_row⟩ := c.def_ 13 (d := dd_law_keys_row) rfl
  have g_law_keys_row := He.glo_ok X G (c.fact 13 (f := .glo "_law_keys_row") rfl)
  obtain ⟨fd_law_record, F_law_record⟩ := c.def_ 14 (d := dd_law_record) rfl
  have g_law_record := He.glo_ok X G (c.fact 14 (f := .glo "_law_record") rfl)
  obtain ⟨fd_law_bent_table, F_law_bent_table⟩ := c.def_ 15 (d := dd_law_bent_table) rfl
  have g_law_bent_table := He.glo_ok X G (c.fact 15 (f := .glo "_law_bent_table") rfl)
  obtain ⟨fd_law_guesses_right, F_law_guesses_right⟩ := c.def_ 16 (d := dd_law_guesses_right) rfl
  have g_law_guesses_right := He.glo_ok X G (c.fact 16 (f := .glo "_law_guesses_right") rfl)
  obtain ⟨fd_law_begin, F_law_begin⟩ := c.def_ 17 (d := dd_law_begin) rfl
  have g_law_begin := He.glo_ok X G (c.fact 17 (f := .glo "_law_begin") rfl)
  obtain ⟨fdlaw, Flaw⟩ := c.def_ 18 (d := ddlaw) rfl
  have glaw := He.glo_ok X G (c.fact 18 (f := .glo "law") rfl)
  have B : Bi mg := ⟨He.free_ok X G (c.fact 19 (f := .free "abs") rfl), He.free_ok X G (c.fact 20 (f := .free "all") rfl), He.free_ok X G (c.fact 21 (f := .free "bool") rfl), He.free_ok X G (c.fact 22 (f := .free "int") rfl), He.free_ok X G (c.fact 23 (f := .free "isinstance") rfl), He.free_ok X G (c.fact 24 (f := .free "len") rfl), He.free_ok X G (c.fact 25 (f := .free "range") rfl), He.free_ok X G (c.fact 26 (f := .free "sum") rfl), He.free_ok X G (c.fact 27 (f := .free "tuple") rfl)⟩
  have e := hfa.symm.trans glaw
  cases e
  have b := FunD.bindsA (ps := ["script"]) Flaw fun _ _ _ _ _ _ us hl => match us, hl with | [_], _ => rfl
  refine ⟨fdlaw, fun s v => b s [v] rfl, fun base _ _ => ?_⟩
  have Dcounted_pairs := okcounted_pairs (P := P) (w := w) (base := base) B Fcounted_pairs gcounted_pairs 
  have Dwrong_guesses := okwrong_guesses (P := P) (w := w) (base := base) B Fwrong_guesses gwrong_guesses Dcounted_pairs
  have Dbest_key := okbest_key (P := P) (w := w) (base := base) B Fbest_key gbest_key 
  have Dbest_table := okbest_table (P := P) (w := w) (base := base) B Fbest_table gbest_table Dcounted_pairs Dbest_key
  have Dlast_known := oklast_known (P := P) (w := w) (base := base) B Flast_known glast_known 
  have Dguess_of := okguess_of (P := P) (w := w) (base := base) B Fguess_of gguess_of Dlast_known
  have D_law_draw := ok_law_draw (P := P) (w := w) (base := base) B F_law_draw g_law_draw 
  have D_law_pick := ok_law_pick (P := P) (w := w) (base := base) B F_law_pick g_law_pick D_law_draw
  have D_law_is_int := ok_law_is_int (P := P) (w := w) (base := base) B F_law_is_int g_law_is_int 
  have D_law_is_ints := ok_law_is_ints (P := P) (w := w) (base := base) B F_law_is_ints g_law_is_ints D_law_is_int
  have D_law_known_key := ok_law_known_key (P := P) (w := w) (base := base) B F_law_known_key g_law_known_key 
  have D_law_wrong := ok_law_wrong (P := P) (w := w) (base := base) B F_law_wrong g_law_wrong D_law_known_key
  have D_law_tables := ok_law_tables (P := P) (w := w) (base := base) B F_law_tables g_law_tables 
  have D_law_keys_row := ok_law_keys_row (P := P) (w := w) (base := base) B F_law_keys_row g_law_keys_row D_law_draw D_law_known_key
  have D_law_record := ok_law_record (P := P) (w := w) (base := base) B F_law_record g_law_record D_law_draw D_law_pick D_law_keys_row
  have D_law_bent_table := ok_law_bent_table (P := P) (w := w) (base := base) B F_law_bent_table g_law_bent_table D_law_draw
  have D_law_guesses_right := ok_law_guesses_right (P := P) (w := w) (base := base) B F_law_guesses_right g_law_guesses_right Dguess_of D_law_is_int D_law_known_key
  exact oklaw B Flaw F_law_begin g_law_begin D_law_pick D_law_draw D_law_record D_law_tables D_law_wrong Dbest_table D_law_is_ints D_law_bent_table Dwrong_guesses D_law_is_int D_law_guesses_right law_math
end G
open PySem PySem.W PySem.Calls PyProof.Rows
set_option maxRecDepth 100000 in
set_option maxHeartbeats 0 in
theorem PySem.Challenge.cw_judgedplay_k94_best_tables_holds : PySem.Challenge.rw_judgedplay_k94_best_tables.Holds := by
  w_on; o_law
  refine HandSHeadRun.head_any (r := OpenLaw.row PySem.Challenge.rw_judgedplay_k94_best_tables) (q := view (OpenLaw.row PySem.Challenge.rw_judgedplay_k94_best_tables).prog [21]) (H := G.hk) (ob := G.ob) (M := 1480) (loose := G.loose) (d := HandSHeadRun.topDef (OpenLaw.row PySem.Challenge.rw_judgedplay_k94_best_tables).prog 21) (kwd := []) G.ob_eq
    (by kernel_rfl) (fun s => by kernel_rfl) G.run (by kernel_rfl) (by kernel_rfl) (by kernel_rfl) (by rfl) (by first | assumption | decide +kernel) (by decide +kernel) ⟨rfl, rfl, rfl, rfl, rfl, by decide +kernel⟩ ?hw ?hc
  case hw => w_witness2
  case hc =>
    refine L2.walk_ofE (l := PySem.Challenge.rw_judgedplay_k94_best_tables) (n := 63) (k := 4) (x := "script") (CX := L2.CX0) rfl (by decide) (by kernel_rfl) ⟨rfl, by decide, by decide⟩ ?F (fun _ _ _ _ z => z)
    intro w mg fa h Y Gn hmg0
    obtain ⟨K, KX, c⟩ := Y
    have hmg : mg ("law" : PySem.Str) = some (.ref fa) := by
      have e : (HandSHeadRun.topDef (OpenLaw.row PySem.Challenge.rw_judgedplay_k94_best_tables).prog 21).name = ("law" : PySem.Str) := by kernel_rfl
      rw [← e]
      exact hmg0
    obtain ⟨fd, hb, hF⟩ := G.facts (P := (PySem.Challenge.rw_judgedplay_k94_best_tables).prog) (w := w) KX Gn hmg c
    exact ⟨K, fd, FL.spLaw K, KX, hb, fun H a ns hl _ hS => ⟨a, ns, rfl, hS, hl, fun _ => rfl⟩, hF⟩
