import PyProof.Rows.All
import Wide.All
import OpenK.AllK
import Wide.FinOn
import HandS.ForMost
import HandS.More
import HandS.IsInst
import HandS.TupAny
import HandS.Conv
import HandS.SortRule
import HandS.SortInts
import HandS.Flow
import HandS.Defaults
import HandS.HeadHook2
import HandS.Head0
import HandS.Head1
import HandS.Head2
import HandS.HeadEnd
import PySem.Challenge.RW_judgedplay_k78_bounds
set_option Elab.async false
set_option linter.all false
set_option maxRecDepth 100000
set_option maxHeartbeats 4000000
/-! FL1: data D, objects O, stores, results R; how a heap bears a store (Sim), how it grows (Ext); functional readings tG. -/
namespace FL
open PySem PySem.Spec PyProof.Rows L2

/-- data: what a name may hold. loc n: the n-th mutable object of the store -/
inductive D where
  | non | bl (b : Bool) | int (i : Int) | str (x : Str) | ty (n : String) | tup (xs : List D) | loc (n : Nat)
/-- mutable objects -/
inductive O where
  | lst (xs : List D) | dK (kvs : List (Key × D)) | dT (kvs : List (List Key × D)) | ins (C : Addr) (fs : List (Str × D))
abbrev Sto := List O
abbrev Sd := List (Option D)
/-- results: a value and the store behind it; an exception (its class, the fields of its own dict); stuck -/
inductive R (α : Type) where
  | ok (a : α) (S : Sto) | exc (c : Value) (fs : Option (List (Str × D))) (S : Sto) | bad
def R.bind {α β : Type} (r : R α) (k : α → Sto → R β) : R β := match r with
  | .ok a S => k a S
  | .exc c fs S => .exc c fs S
  | .bad => .bad
@[simp] theorem R.bind_ok {α β : Type} (a : α) (S : Sto) (k : α → Sto → R β) : (R.ok a S).bind k = k a S := rfl
@[simp] theorem R.bind_exc {α β : Type} (c fs S) (k : α → Sto → R β) : (R.exc c fs S).bind k = .exc c fs S := rfl
@[simp] theorem R.bind_bad {α β : Type} (k : α → Sto → R β) : (R.bad).bind k = .bad := rfl

/-- a branch; its ways are not looked into ahead of it -/
def brK {α β : Type} (c : Bool) (a b : Sd → α → β) (σ : Sd) (S : α) : β := match c with
  | true => a σ S
  | false => b σ S
@[simp] theorem brK_true {α β : Type} (a b : Sd → α → β) (σ S) : brK true a b σ S = a σ S := rfl
@[simp] theorem brK_false {α β : Type} (a b : Sd → α → β) (σ S) : brK false a b σ S = b σ S := rfl

mutual
inductive Rep (H : Hp) (ρ : List Addr) : V → D → Prop
  | non : Rep H ρ .non .non
  | bl (b : Bool) : Rep H ρ (.bl b) (.bl b)
  | int (i : Int) : Rep H ρ (.int i) (.int i)
  | str (x : Str) : Rep H ρ (.str x) (.str x)
  | ty (n : String) : Rep H ρ (.ty n) (.ty n)
  | tup {a : Addr} {xs : List V} {ds : List D} : H a = some (.tup xs) → Reps H ρ xs ds → Rep H ρ (.ref a) (.tup ds)
  | loc {a : Addr} {n : Nat} : ρ[n]? = some a → Rep H ρ (.ref a) (.loc n)
inductive Reps (H : Hp) (ρ : List Addr) : List V → List D → Prop
  | nil : Reps H ρ [] []
  | cons {v : V} {vs : List V} {d : D} {ds : List D} : Rep H ρ v d → Reps H ρ vs ds → Reps H ρ (v :: vs) (d :: ds)
end
def RepF {κ : Type} (H : Hp) (ρ : List Addr) : List (κ × V) → List (κ × D) → Prop := Paired fun p q => p.1 = q.1 ∧ Rep H ρ p.2 q.2
def RepO (H : Hp) (ρ : List Addr) (a : Addr) : O → Prop
  | .lst ds => ∃ xs, H a = some (.lst xs) ∧ Reps H ρ xs ds
  | .dK kvs => ∃ ks, H a = some (.dK ks) ∧ RepF H ρ ks kvs
  | .dT kvs => ∃ ks, H a = some (.dT ks) ∧ RepF H ρ ks kvs
  | .ins C fs => ∃ dx gs, H a = some (.ins C dx gs) ∧ RepF H ρ gs fs
def isM : HO → Bool
  | .lst _ => true | .dK _ => true | .dT _ => true | .ins _ _ _ => true | _ => false
theorem RepO.m {H : Hp} {ρ : List Addr} {a : Addr} {o : O} (h : RepO H ρ a o) : ∃ u, H a = some u ∧ isM u = true := by
  cases o with
  | lst _ => obtain ⟨xs, e, _⟩ := h; exact ⟨_, e, rfl⟩
  | dK _ => obtain ⟨xs, e, _⟩ := h; exact ⟨_, e, rfl⟩
  | dT _ => obtain ⟨xs, e, _⟩ := h; exact ⟨_, e, rfl⟩
  | ins _ _ => obtain ⟨dx, xs, e, _⟩ := h; exact ⟨_, e, rfl⟩

structure Ext (ρ : List Addr) (H : Hp) (ρ' : List Addr) (H' : Hp) : Prop where
  pre : ρ <+: ρ'
  new : ∀ b ∈ ρ', b ∉ ρ → H b = none
  fr : ∀ b o, H b = some o → b ∉ ρ → H' b = some o
structure Sim (ρ : List Addr) (S : Sto) (H : Hp) : Prop where
  len : ρ.length = S.length
  nd : ρ.Nodup
  at_ : ∀ (n : Nat) (o : O), S[n]? = some o → ∃ a, ρ[n]? = some a ∧ RepO H ρ a o
theorem Ext.refl {ρ H} : Ext ρ H ρ H := ⟨List.prefix_refl _, fun _ h n => absurd h n, fun _ _ h _ => h⟩
theorem Ext.trans {ρ ρ1 ρ2 H H1 H2} (a : Ext ρ H ρ1 H1) (b : Ext ρ1 H1 ρ2 H2) : Ext ρ H ρ2 H2 := by
  have new : ∀ c ∈ ρ2, c ∉ ρ → H c = none := fun c h n => by
    by_cases h1 : c ∈ ρ1
    · exact a.new c h1 n
    · have e := b.new c h h1
      cases q : H c with
      | none => rfl
      | some o => rw [a.fr c o q n] at e; cases e
  refine ⟨a.pre.trans b.pre, new, fun c o h n => ?_⟩
  refine b.fr c o (a.fr c o h n) fun h1 => ?_
  rw [a.new c h1 n] at h; cases h
theorem prefix_get {α : Type} {l l' : List α} (h : l <+: l') {n : Nat} {a : α} (e : l[n]? = some a) : l'[n]? = some a := by
  obtain ⟨t, rfl⟩ := h
  have hn : n < l.length := by
    rcases Nat.lt_or_ge n l.length with h | h
    · exact h
    · rw [List.getElem?_eq_none h] at e; cases e
  rw [List.getElem?_append_left hn]; exact e
theorem Sim.mem {ρ S H b} (s : Sim ρ S H) (hb : b ∈ ρ) : ∃ u, H b = some u ∧ isM u = true := by
  obtain ⟨n, hn, rfl⟩ := List.getElem_of_mem hb
  have hS : n < S.length := by rw [← s.len]; exact hn
  obtain ⟨a, e, r⟩ := s.at_ n _ (List.getElem?_eq_getElem hS)
  rw [List.getElem?_eq_getElem hn] at e
  cases e
  exact r.m
theorem Sim.nmem {ρ S H b o} (s : Sim ρ S H) (e : H b = some o) (hm : isM o = false) : b ∉ ρ := fun hb => by
  obtain ⟨u, e1, e2⟩ := s.mem hb
  rw [e] at e1; cases e1; rw [hm] at e2; cases e2
theorem Sim.fresh {ρ S H b} (s : Sim ρ S H) (e : H b = none) : b ∉ ρ := fun hb => by
  obtain ⟨u, e1, e2⟩ := s.mem hb
  rw [e] at e1; cases e1
mutual
theorem Rep.mono {ρ ρ' H H'} (hp : ρ <+: ρ') (ht : ∀ a xs, H a = some (.tup xs) → H' a = some (.tup xs)) : ∀ {v d}, Rep H ρ v d → Rep H' ρ' v d
  | _, _, .non => .non
  | _, _, .bl b => .bl b
  | _, _, .int i => .int i
  | _, _, .str i => .str i
  | _, _, .ty i => .ty i
  | _, _, .tup e r => .tup (ht _ _ e) (Reps.mono hp ht r)
  | _, _, .loc e => .loc (prefix_get hp e)
theorem Reps.mono {ρ ρ' H H'} (hp : ρ <+: ρ') (ht : ∀ a xs, H a = some (.tup xs) → H' a = some (.tup xs)) : ∀ {v d}, Reps H ρ v d → Reps H' ρ' v d
  | _, _, .nil => .nil
  | _, _, .cons r t => .cons (Rep.mono hp ht r) (Reps.mono hp ht t)
end
theorem RepF.mono {κ : Type} {ρ ρ' H H'} (hp : ρ <+: ρ') (ht : ∀ a xs, H a = some (.tup xs) → H' a = some (.tup xs)) {gs : List (κ × V)} {fs : List (κ × D)} (h : RepF H ρ gs fs) : RepF H' ρ' gs fs :=
  Paired.mapP h fun _ _ ⟨e, r⟩ => ⟨e, r.mono hp ht⟩
theorem Sim.tup {ρ S H ρ' H'} (s : Sim ρ S H) (e : Ext ρ H ρ' H') : ∀ a xs, H a = some (.tup xs) → H' a = some (.tup xs) := fun a xs h => e.fr a _ h (s.nmem h rfl)
theorem Rep.ext {ρ S H ρ' H' v d} (r : Rep H ρ v d) (s : Sim ρ S H) (e : Ext ρ H ρ' H') : Rep H' ρ' v d := r.mono e.pre (s.tup e)
theorem Reps.ext {ρ S H ρ' H' v d} (r : Reps H ρ v d) (s : Sim ρ S H) (e : Ext ρ H ρ' H') : Reps H' ρ' v d := r.mono e.pre (s.tup e)
theorem RepO.mono {ρ ρ' H H' a} (hp : ρ <+: ρ') (ht : ∀ a xs, H a = some (.tup xs) → H' a = some (.tup xs)) (ha : ∀ u, H a = some u → H' a = some u) {o : O} (h : RepO H ρ a o) : RepO H' ρ' a o := by
  cases o with
  | lst _ => obtain ⟨xs, e, r⟩ := h; exact ⟨xs, ha _ e, r.mono hp ht⟩
  | dK _ => obtain ⟨xs, e, r⟩ := h; exact ⟨xs, ha _ e, r.mono hp ht⟩
  | dT _ => obtain ⟨xs, e, r⟩ := h; exact ⟨xs, ha _ e, r.mono hp ht⟩
  | ins _ _ => obtain ⟨dx, xs, e, r⟩ := h; exact ⟨dx, xs, ha _ e, r.mono hp ht⟩

/-! ### the four steps of a heap -/
/-- nothing tracked is laid that the store should know (a tuple, ..) -/
theorem Sim.lay {ρ S H p o} (s : Sim ρ S H) (hp : H p = none) : Ext ρ H ρ (upd H p o) ∧ Sim ρ S (upd H p o) := by
  have e : Ext ρ H ρ (upd H p o) := ⟨List.prefix_refl _, fun _ h n => absurd h n, fun b u h _ => by rw [upd_ne (ne_of_none h hp)]; exact h⟩
  refine ⟨e, s.len, s.nd, fun n u h => ?_⟩
  obtain ⟨a, e1, r⟩ := s.at_ n u h
  exact ⟨a, e1, r.mono (List.prefix_refl _) (s.tup e) fun u h => by rw [upd_ne (ne_of_none h hp)]; exact h⟩
/-- a new object -/
theorem Sim.new {ρ S H p o u} (s : Sim ρ S H) (hp : H p = none) (hr : RepO (upd H p u) ρ p o) : Ext ρ H (ρ ++ [p]) (upd H p u) ∧ Sim (ρ ++ [p]) (S ++ [o]) (upd H p u) := by
  have np : p ∉ ρ := s.fresh hp
  have e : Ext ρ H (ρ ++ [p]) (upd H p u) := ⟨List.prefix_append _ _, fun b h n => by
      rcases List.mem_append.mp h with h | h
      · exact absurd h n
      · rw [List.mem_singleton.mp h]; exact hp, fun b u h _ => by rw [upd_ne (ne_of_none h hp)]; exact h⟩
  have tt : ∀ a xs, (upd H p u) a = some (.tup xs) → (upd H p u) a = some (.tup xs) := fun _ _ h => h
  refine ⟨e, by simp [s.len], ?_, fun n w h => ?_⟩
  · refine List.nodup_append.mpr ⟨s.nd, by simp, fun a ha b hb => ?_⟩
    rintro rfl
    exact np (by rw [← List.mem_singleton.mp hb]; exact ha)
  · by_cases hn : n < S.length
    · rw [List.getElem?_append_left hn] at h
      obtain ⟨a, e1, r⟩ := s.at_ n w h
      exact ⟨a, prefix_get e.pre e1, r.mono e.pre (s.tup e) fun u h => by rw [upd_ne (ne_of_none h hp)]; exact h⟩
    · have hn2 : n = S.length := by
        have : n < (S ++ [o]).length := by
          rcases Nat.lt_or_ge n (S ++ [o]).length with h' | h'
          · exact h'
          · rw [List.getElem?_eq_none h'] at h; cases h
        simp at this; omega
      subst hn2
      have h2 : o = w := by simpa using h
      subst h2
      refine ⟨p, by rw [← s.len]; simp, hr.mono e.pre tt fun u h => h⟩
/-- an object is changed -/
theorem Sim.set {ρ S H a n o u w} (s : Sim ρ S H) (ha : ρ[n]? = some a) (hw : H a = some w) (hr : RepO (upd H a u) ρ a o) : Ext ρ H ρ (upd H a u) ∧ Sim ρ (S.set n o) (upd H a u) := by
  have hm : a ∈ ρ := List.mem_of_getElem? ha
  have e : Ext ρ H ρ (upd H a u) := ⟨List.prefix_refl _, fun _ h n => absurd h n, fun b x h hb => by rw [upd_ne (fun z => hb (by rw [z]; exact hm))]; exact h⟩
  refine ⟨e, by simp [s.len], s.nd, fun k x h => ?_⟩
  by_cases hk : n = k
  · subst hk
    have hS : n < S.length := by
      rw [← s.len]
      rcases Nat.lt_or_ge n ρ.length with h' | h'
      · exact h'
      · rw [List.getElem?_eq_none h'] at ha; cases ha
    rw [List.getElem?_set_self hS] at h
    cases h
    exact ⟨a, ha, hr⟩
  · rw [List.getElem?_set_ne hk] at h
    obtain ⟨b, e1, r⟩ := s.at_ k x h
    have hb : b ≠ a := by
      rintro rfl
      have hn1 : n < ρ.length := by
        rcases Nat.lt_or_ge n ρ.length with h' | h'
        · exact h'
        · rw [List.getElem?_eq_none h'] at ha; cases ha
      exact hk ((List.getElem?_inj hn1 s.nd).mp (by rw [ha, e1]))
    exact ⟨b, e1, r.mono (List.prefix_refl _) (s.tup e) fun u h => by rw [upd_ne hb]; exact h⟩

/-! ### places -/
structure SRep (H : Hp) (ρ : List Addr) (σ : L2.St) (σd : Sd) : Prop where
  len : σd.length = σ.length
  at_ : ∀ (i : Nat) (d : D), σd[i]? = some (some d) → ∃ v, σ[i]? = some (some v) ∧ Rep H ρ v d
theorem SRep.ext {ρ S H ρ' H' σ σd} (r : SRep H ρ σ σd) (s : Sim ρ S H) (e : Ext ρ H ρ' H') : SRep H' ρ' σ σd :=
  ⟨r.len, fun i d h => let ⟨v, e1, q⟩ := r.at_ i d h; ⟨v, e1, q.ext s e⟩⟩
theorem SRep.set {ρ H σ σd v d} (r : SRep H ρ σ σd) (q : Rep H ρ v d) (i : Nat) : SRep H ρ (σ.set i (some v)) (σd.set i (some d)) := by
  refine ⟨by simp [r.len], fun k x h => ?_⟩
  by_cases hk : i = k
  · subst hk
    have hl : i < σd.length := by
      rcases Nat.lt_or_ge i σd.length with h' | h'
      · exact h'
      · rw [List.getElem?_eq_none (by simpa using h')] at h; cases h
    rw [List.getElem?_set_self hl] at h
    cases h
    exact ⟨v, List.getElem?_set_self (by rw [← r.len]; exact hl), q⟩
  · rw [List.getElem?_set_ne hk] at h
    rw [List.getElem?_set_ne hk]
    exact r.at_ k x h

/-! ### what is wanted behind a result -/
def RepX (H : Hp) (ρ : List Addr) : Option Addr → Option (List (Str × D)) → Prop
  | none, none => True
  | some a, some fs => ∃ gs, H a = some (.xd gs) ∧ RepF H ρ gs fs
  | _, _ => False
def PX (E : XK) (ρ : List Addr) (H : Hp) (c : Value) (fs : Option (List (Str × D))) (S' : Sto) : Prop :=
  ∀ dx ρ' H', Ext ρ H ρ' H' → Sim ρ' S' H' → RepX H' ρ' dx fs → E c dx H'
def PostG {α β : Type} (rel : Hp → List Addr → β → α → Prop) (E : XK) (ρ : List Addr) (H : Hp) (Q : β → Hp → Prop) : R α → Prop
  | .ok d S' => ∀ v ρ' H', Ext ρ H ρ' H' → Sim ρ' S' H' → rel H' ρ' v d → Q v H'
  | .exc c fs S' => PX E ρ H c fs S'
  | .bad => False
theorem PX.weak {E ρ H ρ1 H1 c fs S'} (h : PX E ρ H c fs S') (e : Ext ρ H ρ1 H1) : PX E ρ1 H1 c fs S' := fun dx ρ' H' e' s r => h dx ρ' H' (e.trans e') s r
section
variable {α β γ δ : Type} {rel : Hp → List Addr → β → α → Prop} {rel2 : Hp → List Addr → δ → γ → Prop} {E : XK} {ρ ρ1 : List Addr} {H H1 : Hp} {Q Q' : β → Hp → Prop}
theorem PostG.weak {r : R α} (h : PostG rel E ρ H Q r) (e : Ext ρ H ρ1 H1) : PostG rel E ρ1 H1 Q r := by
  cases r with
  | ok d S' => exact fun v ρ' H' e' s q => h v ρ' H' (e.trans e') s q
  | exc c fs S' => exact PX.weak h e
  | bad => exact h
theorem PostG.mono {r : R α} (h : PostG rel E ρ H Q r) (hq : ∀ v H', Q v H' → Q' v H') : PostG rel E ρ H Q' r := by
  cases r with
  | ok d S' => exact fun v ρ' H' e' s q => hq _ _ (h v ρ' H' e' s q)
  | exc c fs S' => exact h
  | bad => exact h
theorem PostG.bind {m : R α} {k : α → Sto → R γ} {Q : δ → Hp → Prop} (h : PostG rel2 E ρ H Q (m.bind k)) :
    PostG rel E ρ H (fun v H1 => ∃ ρ1 S1 x, Ext ρ H ρ1 H1 ∧ Sim ρ1 S1 H1 ∧ rel H1 ρ1 v x ∧ PostG rel2 E ρ1 H1 Q (k x S1)) m := by
  cases m with
  | ok d S' => exact fun v ρ' H' e s q => ⟨ρ', S', d, e, s, q, PostG.weak h e⟩
  | exc c fs S' => exact h
  | bad => exact h
/-- a value that is at hand -/
theorem PostG.here {d : α} {S : Sto} {v : β} (h : PostG rel E ρ H Q (.ok d S)) (s : Sim ρ S H) (r : rel H ρ v d) : Q v H := h v ρ H .refl s r
end
/-- a functional reading -/
def tG {α β : Type} (rel : Hp → List Addr → β → α → Prop) (E : XK) (m : Sd → Sto → R α) : L2.St → Hp → (β → Hp → Prop) → Prop :=
  fun σ H Q => ∃ ρ S σd, Sim ρ S H ∧ SRep H ρ σ σd ∧ PostG rel E ρ H Q (m σd S)
abbrev relB : Hp → List Addr → Bool → Bool → Prop := fun _ _ b c => b = c
abbrev tF (E : XK) (m : Sd → Sto → R D) : TE := tG Rep E m
abbrev tFT (E : XK) (m : Sd → Sto → R Bool) : TT := tG relB E m
abbrev tFA (E : XK) (m : Sd → Sto → R (List D)) : TA := tG Reps E m
abbrev Me := Sd → Sto → R D
abbrev Mt := Sd → Sto → R Bool
abbrev Ma := Sd → Sto → R (List D)
abbrev FE (X : Cx) (E : XK) (e : Expr) (m : Me) : Prop := PE X e (tF E m)
abbrev FT (X : Cx) (E : XK) (e : Expr) (m : Mt) : Prop := PT X e (tFT E m)
abbrev FA (X : Cx) (E : XK) (es : List Expr) (m : Ma) : Prop := PA X es (tFA E m)
section
variable {X : Cx} {e : Expr} {t t' : TE} {es : List Expr} {tt tt' : TT} {ta ta' : TA} {st : Stmt} {sts : List Stmt} {ts ts' : TS}
theorem pe_imp (h : PE X e t) (i : ∀ σ H Q, t' σ H Q → t σ H Q) : PE X e t' := ⟨fun pins s σ H Q I hw => h.run pins s σ H Q I (i _ _ _ hw)⟩
theorem pt_imp (h : PT X e tt) (i : ∀ σ H Q, tt' σ H Q → tt σ H Q) : PT X e tt' := ⟨fun pins s σ H Q I hw => h.run pins s σ H Q I (i _ _ _ hw)⟩
theorem pw_imp (h : PW X e tt) (i : ∀ σ H Q, tt' σ H Q → tt σ H Q) : PW X e tt' := ⟨fun wh pins s σ H Q I hw => h.run wh pins s σ H Q I (i _ _ _ hw)⟩
theorem pa_imp (h : PA X es ta) (i : ∀ σ H Q, ta' σ H Q → ta σ H Q) : PA X es ta' := ⟨fun pos pins s σ H Q I hw => h.run pos pins s σ H Q I (i _ _ _ hw)⟩
theorem ps_imp (h : PS X st ts) (i : ∀ D σ H, ts' D σ H → ts D σ H) : PS X st ts' := ⟨fun pins s σ H D I hw => h.run pins s σ H D I (i _ _ _ hw)⟩
theorem pss_imp (h : PSs X sts ts) (i : ∀ D σ H, ts' D σ H → ts D σ H) : PSs X sts ts' := ⟨fun pins s σ H D I hw => h.run pins s σ H D I (i _ _ _ hw)⟩
end
section
variable {α β γ δ : Type} {rel : Hp → List Addr → β → α → Prop} {rel2 : Hp → List Addr → δ → γ → Prop} {E : XK} {σ : L2.St} {H : Hp}
/-- one reading behind another -/
theorem tG_bind {m : Sd → Sto → R α} {k : Sd → α → Sto → R γ} {Q : δ → Hp → Prop} {Q' : β → Hp → Prop} (h : tG rel2 E (fun σd S => (m σd S).bind (k σd)) σ H Q)
    (go : ∀ v H1 ρ1 S1 σd x, Sim ρ1 S1 H1 → SRep H1 ρ1 σ σd → rel H1 ρ1 v x → PostG rel2 E ρ1 H1 Q (k σd x S1) → Q' v H1) : tG rel E m σ H Q' := by
  obtain ⟨ρ, S, σd, s, r, h⟩ := h
  refine ⟨ρ, S, σd, s, r, PostG.mono (PostG.bind h) fun v H1 ⟨ρ1, S1, x, e, s1, q, h1⟩ => ?_⟩
  exact go v H1 ρ1 S1 σd x s1 (r.ext s e) q h1
end
end FL
set_option Elab.async false
set_option linter.all false
set_option maxRecDepth 100000
set_option maxHeartbeats 4000000
/-! FL2: functional readings of expressions. -/
namespace FL
open PySem PySem.Spec PyProof.Rows L2

/-! ### names, constants -/
@[simp] def mVar (i : Nat) (σ : Sd) (S : Sto) : R D := match σ[i]? with
  | some (some d) => .ok d S
  | _ => .bad
@[simp] def mC (d : D) (_ : Sd) (S : Sto) : R D := .ok d S
section
variable {X : Cx} {E : XK} {pos : Pos}
theorem fe_var {i : Nat} {x : Str} (hN : X.N[i]? = some x) (hv : Vis X.env.scope x) (hd : (x == ("__debug__" : Str)) = false := by decide) (hcd : (x == ("__classdict__" : Str)) = false := by decide) : FE X E (.Name x pos) (mVar i) :=
  pe_imp (pe_var hN hv hd hcd) fun σ H Q ⟨ρ, S, σd, s, r, h⟩ => by
    unfold mVar at h
    split at h
    · rename_i d e
      obtain ⟨v, e1, q⟩ := r.at_ i d e
      exact ⟨v, e1, h.here s q⟩
    · exact h.elim
theorem fe_c {e : Expr} {v : V} {d : D} (h : PE X e (tC v)) (hr : ∀ H ρ, Rep H ρ v d) : FE X E e (mC d) :=
  pe_imp h fun σ H Q ⟨ρ, S, σd, s, r, h⟩ => h.here s (hr _ _)
theorem fe_int {i j} : FE X E (.Constant (.int i) j pos) (mC (.int i)) := fe_c pe_int fun _ _ => .int _
theorem fe_bl {i j} : FE X E (.Constant (.bool i) j pos) (mC (.bl i)) := fe_c pe_bl fun _ _ => .bl _
theorem fe_non {j} : FE X E (.Constant .none j pos) (mC .non) := fe_c pe_non fun _ _ => .non
theorem fe_str {i j} : FE X E (.Constant (.str i) j pos) (mC (.str i)) := fe_c pe_str fun _ _ => .str _
theorem fe_ty {x : Str} {n : String} (hg : Gl X x) (hm : X.mg x = none) (hv : bootBuiltins x = some (.type n)) (hn : x ≠ "__name__" := by decide) (hd : (x == ("__debug__" : Str)) = false := by decide) : FE X E (.Name x pos) (mC (.ty n)) :=
  fe_c (pe_bltn (v := .ty n) hg hm hv rfl hn hd) fun _ _ => .ty _
end

/-! ### two places, one place -/
abbrev Fn2 := D → D → Sto → R D
abbrev Fn1 := D → Sto → R D
abbrev FnL := List D → Sto → R D
@[simp] def opK (f : Fn2) (b : Me) (σ : Sd) (x : D) (S1 : Sto) : R D := (b σ S1).bind (f x)
@[simp] def mOp (f : Fn2) (a b : Me) (σ : Sd) (S : Sto) : R D := (a σ S).bind (opK f b σ)
@[simp] def mUn (f : Fn1) (a : Me) (σ : Sd) (S : Sto) : R D := (a σ S).bind f
def R2Ok (E : XK) (r : R2) (f : Fn2) : Prop := ∀ ρ S H x y dx dy Q, Sim ρ S H → Rep H ρ x dx → Rep H ρ y dy → PostG Rep E ρ H Q (f dx dy S) → r x y H Q
def R1Ok (E : XK) (r : V → Hp → VK → Prop) (f : Fn1) : Prop := ∀ ρ S H x dx Q, Sim ρ S H → Rep H ρ x dx → PostG Rep E ρ H Q (f dx S) → r x H Q
def RnOk (E : XK) (r : List V → Hp → VK → Prop) (f : FnL) : Prop := ∀ ρ S H xs ds Q, Sim ρ S H → Reps H ρ xs ds → PostG Rep E ρ H Q (f ds S) → r xs H Q
structure OpF (X : Cx) (E : XK) (g : Value → Value → Sem Value) (f : Fn2) : Prop where
  ex : ∃ r, OpR X g r ∧ R2Ok E r f
structure UnF (X : Cx) (E : XK) (g : Value → Sem Value) (f : Fn1) : Prop where
  ex : ∃ r, UnR X g r ∧ R1Ok E r f
structure CallF (X : Cx) (E : XK) (g : Value) (f : FnL) : Prop where
  ex : ∃ r, CallR X g r ∧ RnOk E r f
section
variable {X : Cx} {E : XK} {pos : Pos} {a b c : Expr} {ma mb mc : Me}
theorem tOp_of {r : R2} {f : Fn2} (hr : R2Ok E r f) {σ H Q} (h : tF E (mOp f ma mb) σ H Q) : tOp r (tF E ma) (tF E mb) σ H Q := by
  obtain ⟨ρ, S, σd, s, r, h⟩ := h
  exact ⟨ρ, S, σd, s, r, (PostG.bind (rel := Rep) h).mono fun x H1 ⟨ρ1, S1, dx, e1, s1, q1, h1⟩ => ⟨ρ1, S1, σd, s1, r.ext s e1, (PostG.bind (rel := Rep) h1).mono fun y H2 ⟨ρ2, S2, dy, e2, s2, q2, h2⟩ =>
    hr ρ2 S2 H2 x y dx dy Q s2 (q1.ext s1 e2) q2 h2⟩⟩
theorem tUn_of {r : V → Hp → VK → Prop} {f : Fn1} (hr : R1Ok E r f) {σ H Q} (h : tF E (mUn f ma) σ H Q) : tUn r (tF E ma) σ H Q := by
  obtain ⟨ρ, S, σd, s, r, h⟩ := h
  exact ⟨ρ, S, σd, s, r, (PostG.bind (rel := Rep) h).mono fun x H1 ⟨ρ1, S1, dx, e1, s1, q1, h1⟩ => hr ρ1 S1 H1 x dx Q s1 q1 h1⟩
theorem fe_op {op : Operator} {f : Fn2} (ho : OpF X E (binaryOp op) f) (ha : FE X E a ma) (hb : FE X E b mb) : FE X E (.BinOp a op b pos) (mOp f ma mb) := by
  obtain ⟨r, h1, h2⟩ := ho.ex
  exact pe_imp (pe_op h1 ha hb) fun σ H Q h => tOp_of h2 h
theorem fe_un {op : UnaryOp} {f : Fn1} (ho : UnF X E (unaryOp op) f) (ha : FE X E a ma) : FE X E (.UnaryOp op a pos) (mUn f ma) := by
  obtain ⟨r, h1, h2⟩ := ho.ex
  exact pe_imp (pe_un h1 ha) fun σ H Q h => tUn_of h2 h
theorem fe_cmp {op : CmpOp} {f : Fn2} (ho : OpF X E (compareOp op) f) (ha : FE X E a ma) (hb : FE X E b mb) (hm : behindInMarks op b = false) : FE X E (.Compare a [op] [b] pos) (mOp f ma mb) := by
  obtain ⟨r, h1, h2⟩ := ho.ex
  exact pe_imp (pe_cmpR h1 ha hb hm) fun σ H Q h => tOp_of h2 h
/-! tests -/
@[simp] def asB : D → Sto → R Bool
  | .bl b, S => .ok b S
  | _, _ => .bad
@[simp] def mTest (m : Me) (σ : Sd) (S : Sto) : R Bool := (m σ S).bind asB
theorem asB_post {ρ S H x d} {Q : Bool → Hp → Prop} (s : Sim ρ S H) (r : Rep H ρ x d) (h : PostG relB E ρ H Q (asB d S)) : ∃ c, x = .bl c ∧ Q c H := by
  cases d with
  | bl b => cases r; exact ⟨b, rfl, h.here s rfl⟩
  | _ => exact h.elim
theorem tTest_of {σ H Q} (h : tFT E (mTest ma) σ H Q) : tTest (tF E ma) σ H Q := by
  obtain ⟨ρ, S, σd, s, r, h⟩ := h
  exact ⟨ρ, S, σd, s, r, (PostG.bind (rel := Rep) h).mono fun x H1 ⟨ρ1, S1, dx, e1, s1, q1, h1⟩ => asB_post s1 q1 h1⟩
/-- an expression whose value is a bool, as a test -/
theorem ft_val (h : FE X E a ma) (he : ∀ whole, isTrue a X.env whole = (do let v ← whole; standAt a.pos; holding [v] (truthy v)) := by intro _; rfl) : FT X E a (mTest ma) :=
  pt_imp (pt_val h he) fun σ H Q h => tTest_of h
theorem ft_cmp {op : CmpOp} {f : Fn2} (ho : OpF X E (compareOp op) f) (ha : FE X E a ma) (hb : FE X E b mb) (hm : behindInMarks op b = false) : FT X E (.Compare a [op] [b] pos) (mTest (mOp f ma mb)) := by
  obtain ⟨r, h1, h2⟩ := ho.ex
  refine pt_imp (pt_cmpR h1 ha hb hm) fun σ H Q h => ?_
  have h' := tTest_of h
  have := tOp_of (ma := ma) (mb := mb) h2 h'
  exact this
/-! and, or, not -/
def FW (X : Cx) (E : XK) (e : Expr) (m : Mt) : Prop := PW X e (tFT E m)
@[simp] def mCB (c : Bool) (_ : Sd) (S : Sto) : R Bool := .ok c S
@[simp] def andK (b : Mt) (σ : Sd) (x : Bool) (S1 : Sto) : R Bool := brK x b (mCB false) σ S1
@[simp] def mAnd (a b : Mt) (σ : Sd) (S : Sto) : R Bool := (a σ S).bind (andK b σ)
@[simp] def orK (b : Mt) (σ : Sd) (x : Bool) (S1 : Sto) : R Bool := brK x (mCB true) b σ S1
@[simp] def mOr (a b : Mt) (σ : Sd) (S : Sto) : R Bool := (a σ S).bind (orK b σ)
@[simp] def notK (x : Bool) (S1 : Sto) : R Bool := .ok (!x) S1
@[simp] def mNot (a : Mt) (σ : Sd) (S : Sto) : R Bool := (a σ S).bind notK
variable {ta tb : Mt} {rest : List Expr}
theorem fw_pt {e : Expr} (h : FW X E e ta) : FT X E e ta := PW.pt h
theorem fw_and1 (ha : FT X E a ta) : FW X E (.BoolOp .And [a] pos) ta := pw_and1 ha
theorem fw_or1 (ha : FT X E a ta) : FW X E (.BoolOp .Or [a] pos) ta := pw_or1 ha
theorem fw_and (ha : FT X E a ta) (hb : FW X E (.BoolOp .And (b :: rest) pos) tb) : FW X E (.BoolOp .And (a :: b :: rest) pos) (mAnd ta tb) :=
  pw_imp (pw_and ha hb) fun σ H Q ⟨ρ, S, σd, s, r, h⟩ => ⟨ρ, S, σd, s, r, (PostG.bind (rel := relB) h).mono fun x H1 ⟨ρ1, S1, dx, e1, s1, q1, h1⟩ => by
    cases (show x = dx from q1)
    cases x with
    | true => rw [if_pos rfl]; exact ⟨ρ1, S1, σd, s1, r.ext s e1, h1⟩
    | false => rw [if_neg Bool.false_ne_true]; exact h1.here s1 rfl⟩
theorem fw_or (ha : FT X E a ta) (hb : FW X E (.BoolOp .Or (b :: rest) pos) tb) : FW X E (.BoolOp .Or (a :: b :: rest) pos) (mOr ta tb) :=
  pw_imp (pw_or ha hb) fun σ H Q ⟨ρ, S, σd, s, r, h⟩ => ⟨ρ, S, σd, s, r, (PostG.bind (rel := relB) h).mono fun x H1 ⟨ρ1, S1, dx, e1, s1, q1, h1⟩ => by
    cases (show x = dx from q1)
    cases x with
    | false => rw [if_neg Bool.false_ne_true]; exact ⟨ρ1, S1, σd, s1, r.ext s e1, h1⟩
    | true => rw [if_pos rfl]; exact h1.here s1 rfl⟩
theorem ft_not (ha : FT X E a ta) : FT X E (.UnaryOp .Not a pos) (mNot ta) :=
  pt_imp (pt_not ha) fun σ H Q ⟨ρ, S, σd, s, r, h⟩ => ⟨ρ, S, σd, s, r, (PostG.bind (rel := relB) h).mono fun x H1 ⟨ρ1, S1, dx, e1, s1, q1, h1⟩ => by
    cases (show x = dx from q1)
    exact h1.here s1 rfl⟩
/-- .. as values, all but the last bools -/
@[simp] def andVK2 (b : Me) (σ : Sd) (x : Bool) (S1 : Sto) : R D := brK x b (mC (.bl false)) σ S1
@[simp] def andVK (b : Me) (σ : Sd) (x : D) (S1 : Sto) : R D := (asB x S1).bind (andVK2 b σ)
@[simp] def mAndV (a b : Me) (σ : Sd) (S : Sto) : R D := (a σ S).bind (andVK b σ)
@[simp] def orVK2 (b : Me) (σ : Sd) (x : Bool) (S1 : Sto) : R D := brK x (mC (.bl true)) b σ S1
@[simp] def orVK (b : Me) (σ : Sd) (x : D) (S1 : Sto) : R D := (asB x S1).bind (orVK2 b σ)
@[simp] def mOrV (a b : Me) (σ : Sd) (S : Sto) : R D := (a σ S).bind (orVK b σ)
@[simp] def notVK2 (x : Bool) (S1 : Sto) : R D := .ok (.bl (!x)) S1
@[simp] def notVK (x : D) (S1 : Sto) : R D := (asB x S1).bind notVK2
@[simp] def mNotV (a : Me) (σ : Sd) (S : Sto) : R D := (a σ S).bind notVK
theorem asB_bind {α : Type} {β : Type} {rel : Hp → List Addr → β → α → Prop} {ρ S H x d} {k : Bool → Sto → R α} {Q : β → Hp → Prop} (s : Sim ρ S H) (r : Rep H ρ x d) (h : PostG rel E ρ H Q ((asB d S).bind k)) : ∃ c, x = .bl c ∧ PostG rel E ρ H Q (k c S) := by
  cases d with
  | bl b => cases r; exact ⟨b, rfl, h⟩
  | _ => exact h.elim
theorem fe_one {op} (h : FE X E a ma) : FE X E (.BoolOp op [a] pos) ma := pe_one h
theorem fe_and (ha : FE X E a ma) (hb : FE X E (.BoolOp .And (b :: rest) pos) mb) : FE X E (.BoolOp .And (a :: b :: rest) pos) (mAndV ma mb) :=
  pe_imp (pe_and ha hb) fun σ H Q ⟨ρ, S, σd, s, r, h⟩ => ⟨ρ, S, σd, s, r, (PostG.bind (rel := Rep) h).mono fun x H1 ⟨ρ1, S1, dx, e1, s1, q1, h1⟩ => by
    obtain ⟨c, rfl, h2⟩ := asB_bind s1 q1 h1
    refine ⟨c, rfl, ?_⟩
    cases c with
    | true => rw [if_pos rfl]; exact ⟨ρ1, S1, σd, s1, r.ext s e1, h2⟩
    | false => rw [if_neg Bool.false_ne_true]; exact h2.here s1 (.bl _)⟩
theorem fe_or (ha : FE X E a ma) (hb : FE X E (.BoolOp .Or (b :: rest) pos) mb) : FE X E (.BoolOp .Or (a :: b :: rest) pos) (mOrV ma mb) :=
  pe_imp (pe_or ha hb) fun σ H Q ⟨ρ, S, σd, s, r, h⟩ => ⟨ρ, S, σd, s, r, (PostG.bind (rel := Rep) h).mono fun x H1 ⟨ρ1, S1, dx, e1, s1, q1, h1⟩ => by
    obtain ⟨c, rfl, h2⟩ := asB_bind s1 q1 h1
    refine ⟨c, rfl, ?_⟩
    cases c with
    | false => rw [if_neg Bool.false_ne_true]; exact ⟨ρ1, S1, σd, s1, r.ext s e1, h2⟩
    | true => rw [if_pos rfl]; exact h2.here s1 (.bl _)⟩
theorem fe_not (ha : FE X E a ma) : FE X E (.UnaryOp .Not a pos) (mNotV ma) :=
  pe_imp (pe_not ha) fun σ H Q ⟨ρ, S, σd, s, r, h⟩ => ⟨ρ, S, σd, s, r, (PostG.bind (rel := Rep) h).mono fun x H1 ⟨ρ1, S1, dx, e1, s1, q1, h1⟩ => by
    obtain ⟨c, rfl, h2⟩ := asB_bind s1 q1 h1
    exact ⟨c, rfl, h2.here s1 (.bl _)⟩⟩
@[simp] def ifeK (a b : Me) (σ : Sd) (x : Bool) (S1 : Sto) : R D := brK x a b σ S1
@[simp] def mIf (t : Mt) (a b : Me) (σ : Sd) (S : Sto) : R D := (t σ S).bind (ifeK a b σ)
theorem fe_if (hc : FT X E c ta) (ha : FE X E a ma) (hb : FE X E b mb) : FE X E (.IfExp c a b pos) (mIf ta ma mb) :=
  pe_imp (pe_ifExp hc ha hb) fun σ H Q ⟨ρ, S, σd, s, r, h⟩ => ⟨ρ, S, σd, s, r, (PostG.bind (rel := relB) h).mono fun x H1 ⟨ρ1, S1, dx, e1, s1, q1, h1⟩ => by
    cases (show x = dx from q1)
    cases x with
    | true => rw [if_pos rfl]; exact ⟨ρ1, S1, σd, s1, r.ext s e1, h1⟩
    | false => rw [if_neg Bool.false_ne_true]; exact ⟨ρ1, S1, σd, s1, r.ext s e1, h1⟩⟩

/-! ### lists of expressions, displays -/
@[simp] def aNil (_ : Sd) (S : Sto) : R (List D) := .ok [] S
@[simp] def consK2 (x : D) (xs : List D) (S2 : Sto) : R (List D) := .ok (x :: xs) S2
@[simp] def consK (t : Ma) (σ : Sd) (x : D) (S1 : Sto) : R (List D) := (t σ S1).bind (consK2 x)
@[simp] def aCons (a : Me) (t : Ma) (σ : Sd) (S : Sto) : R (List D) := (a σ S).bind (consK t σ)
variable {es : List Expr} {t : Ma}
theorem fa_nil : FA X E [] aNil := pa_imp pa_nil fun σ H Q ⟨ρ, S, σd, s, r, h⟩ => h.here s .nil
theorem fa_cons (ha : FE X E a ma) (hr : FA X E es t) (hs : starEach (a :: es) X.env = (false, eval a X.env) :: starEach es X.env := by rfl) : FA X E (a :: es) (aCons ma t) :=
  pa_imp (pa_cons ha hr hs) fun σ H Q ⟨ρ, S, σd, s, r, h⟩ => ⟨ρ, S, σd, s, r, (PostG.bind (rel := Rep) h).mono fun x H1 ⟨ρ1, S1, dx, e1, s1, q1, h1⟩ =>
    ⟨ρ1, S1, σd, s1, r.ext s e1, (PostG.bind (rel := Reps) h1).mono fun xs H2 ⟨ρ2, S2, ds, e2, s2, q2, h2⟩ => h2.here s2 (.cons (q1.ext s1 e2) q2)⟩⟩
@[simp] noncomputable def fTup (ds : List D) (S : Sto) : R D := if ds.length ≤ sizeLine then .ok (.tup ds) S else .bad
@[simp] noncomputable def fLst (ds : List D) (S : Sto) : R D := if ds.length ≤ sizeLine then .ok (.loc S.length) (S ++ [.lst ds]) else .bad
@[simp] def mL (f : FnL) (t : Ma) (σ : Sd) (S : Sto) : R D := (t σ S).bind f
theorem Reps.length {H ρ} : ∀ {vs ds}, Reps H ρ vs ds → vs.length = ds.length
  | _, _, .nil => rfl
  | _, _, .cons _ t => congrArg (· + 1) (Reps.length t)
theorem new_tup {ρ S H Q xs ds} (s : Sim ρ S H) (q : Reps H ρ xs ds) (h : PostG Rep E ρ H Q (.ok (.tup ds) S)) : ∀ p, H p = none → Q (.ref p) (upd H p (.tup xs)) := fun p hp => by
  obtain ⟨e, s2⟩ := s.lay (o := .tup xs) hp
  exact h _ ρ _ e s2 (.tup upd_same (q.ext s e))
theorem new_obj {ρ S H Q o u} (s : Sim ρ S H) (q : ∀ p, H p = none → RepO (upd H p u) ρ p o) (h : PostG Rep E ρ H Q (.ok (.loc S.length) (S ++ [o]))) : ∀ p, H p = none → Q (.ref p) (upd H p u) := fun p hp => by
  obtain ⟨e, s2⟩ := s.new hp (q p hp)
  exact h _ _ _ e s2 (.loc (by rw [← s.len]; simp))
theorem new_lst {ρ S H Q xs ds} (s : Sim ρ S H) (q : Reps H ρ xs ds) (h : PostG Rep E ρ H Q (.ok (.loc S.length) (S ++ [.lst ds]))) : ∀ p, H p = none → Q (.ref p) (upd H p (.lst xs)) :=
  new_obj (o := .lst ds) s (fun p hp => ⟨xs, upd_same, q.ext s (s.lay hp).1⟩) h
theorem fe_tup {x1} (ha : FA X E es t) : FE X E (.Tuple es x1 pos) (mL fTup t) :=
  pe_imp (pe_tup ha) fun σ H Q ⟨ρ, S, σd, s, r, h⟩ => ⟨ρ, S, σd, s, r, (PostG.bind (rel := Reps) h).mono fun xs H1 ⟨ρ1, S1, ds, e1, s1, q1, h1⟩ => by
    unfold fTup at h1
    split at h1
    · exact ⟨by rw [q1.length]; assumption, new_tup s1 q1 h1⟩
    · exact h1.elim⟩
theorem fe_lst (ha : FA X E es t) : FE X E (.List es pos) (mL fLst t) :=
  pe_imp (pe_lst ha) fun σ H Q ⟨ρ, S, σd, s, r, h⟩ => ⟨ρ, S, σd, s, r, (PostG.bind (rel := Reps) h).mono fun xs H1 ⟨ρ1, S1, ds, e1, s1, q1, h1⟩ => by
    unfold fLst at h1
    split at h1
    · exact ⟨by rw [q1.length]; assumption, new_lst s1 q1 h1⟩
    · exact h1.elim⟩

/-! ### calls of built-ins, of defs -/
variable {x : Str} {p : Pos} {e : Expr} {id : String} {f : FnL}
theorem fe_callB (hc : CallF X E (.builtin id) f) (hg : Gl X x) (hm : X.mg x = none) (hv : bootBuiltins x = some (.builtin id)) (ha : FA X E (e :: es) t) (hn : x ≠ "__name__" := by decide) (hdb : (x == ("__debug__" : Str)) = false := by decide)
    (he : starEach (e :: es) X.env = (false, eval e X.env) :: starEach es X.env := by rfl) (hpl : (backTo pos (starEach es X.env)).any (·.1) = false := by rfl) : FE X E (.Call (.Name x p) (e :: es) [] pos) (mL f t) := by
  obtain ⟨r, h1, h2⟩ := hc.ex
  exact pe_imp (pe_callB h1 hg hm hv ha hn hdb he hpl) fun σ H Q ⟨ρ, S, σd, s, r, h⟩ => ⟨ρ, S, σd, s, r, (PostG.bind (rel := Reps) h).mono fun xs H1 ⟨ρ1, S1, ds, e1, s1, q1, h1⟩ => h2 ρ1 S1 H1 xs ds Q s1 q1 h1⟩
theorem fe_callTy {T : String} (hc : CallF X E (.type T) f) (hg : Gl X x) (hm : X.mg x = none) (hv : bootBuiltins x = some (.type T)) (ha : FA X E (e :: es) t) (hn : x ≠ "__name__" := by decide) (hdb : (x == ("__debug__" : Str)) = false := by decide)
    (he : starEach (e :: es) X.env = (false, eval e X.env) :: starEach es X.env := by rfl) (hpl : (backTo pos (starEach es X.env)).any (·.1) = false := by rfl) : FE X E (.Call (.Name x p) (e :: es) [] pos) (mL f t) := by
  obtain ⟨r, h1, h2⟩ := hc.ex
  exact pe_imp (pe_callTy h1 hg hm hv ha hn hdb he hpl) fun σ H Q ⟨ρ, S, σd, s, r, h⟩ => ⟨ρ, S, σd, s, r, (PostG.bind (rel := Reps) h).mono fun xs H1 ⟨ρ1, S1, ds, e1, s1, q1, h1⟩ => h2 ρ1 S1 H1 xs ds Q s1 q1 h1⟩
/-- the promise that a def does what f does -/
def spF (f : FnL) : Sp := fun vs H Q E => ∃ ρ S ds, Sim ρ S H ∧ Reps H ρ vs ds ∧ PostG Rep E ρ H Q (f ds S)
variable {CX : CXT} {k : Nat} {fa : Addr} {fd : FuncData} {ps : List Str} {nn : Nat}
theorem fe_call (F : FnOk X.prog X.w X.K X.mg X.base CX k fa fd ps (spF f)) (hr : Room k X.A) (hg : Gl X x) (hm : X.mg x = some (.ref fa)) (hk : PySem.W.keepIn X.K (.ref fa) = true) (hb : Binds X.K fd ps []) (hx : Passes CX X E)
    (ha : FA X E (e :: es) t) (hdb : (x == ("__debug__" : Str)) = false := by decide) (he : starEach (e :: es) X.env = (false, eval e X.env) :: starEach es X.env := by rfl) (hpl : (backTo pos (starEach es X.env)).any (·.1) = false := by rfl) :
    FE X E (.Call (.Name x p) (e :: es) [] pos) (mL f t) :=
  pe_imp (pe_call F hr hg hm hk hb .nil hx ha hdb he hpl) fun σ H Q ⟨ρ, S, σd, s, r, h⟩ => ⟨ρ, S, σd, s, r, (PostG.bind (rel := Reps) h).mono fun xs H1 ⟨ρ1, S1, ds, e1, s1, q1, h1⟩ =>
    ⟨ρ1, S1, ds, s1, by rw [List.append_nil]; exact q1, h1⟩⟩
theorem fe_call0 (F : FnOk X.prog X.w X.K X.mg X.base CX k fa fd ps (spF f)) (hr : Room k X.A) (hg : Gl X x) (hm : X.mg x = some (.ref fa)) (hk : PySem.W.keepIn X.K (.ref fa) = true) (hb : Binds X.K fd ps []) (hx : Passes CX X E)
    (hdb : (x == ("__debug__" : Str)) = false := by decide) : FE X E (.Call (.Name x p) [] [] pos) (mL f aNil) :=
  pe_imp (pe_call0 F hr hg hm hk hb .nil hx hdb) fun σ H Q ⟨ρ, S, σd, s, r, h⟩ => ⟨ρ, S, [], s, .nil, h⟩
/-! ### subscripts, slices, methods -/
structure IxF (X : Cx) (E : XK) (f : Fn2) : Prop where
  ex : ∃ r, IxR X r ∧ R2Ok E r f
theorem fe_ix {f : Fn2} (ho : IxF X E f) (ha : FE X E a ma) (hb : FE X E b mb) (hs : PlainIx b) : FE X E (.Subscript a b pos) (mOp f ma mb) := by
  obtain ⟨r, h1, h2⟩ := ho.ex
  exact pe_imp (pe_ix h1 ha hb hs) fun σ H Q h => tOp_of h2 h
structure MtF (X : Cx) (E : XK) (id : String) (f : D → List D → Sto → R D) : Prop where
  ex : ∃ r, MtR X id r ∧ ∀ ρ S H x xs dx ds Q, Sim ρ S H → Rep H ρ x dx → Reps H ρ xs ds → PostG Rep E ρ H Q (f dx ds S) → r x xs H Q
/-- the receiver's type, by the store -/
@[simp] def tyD (T : String) (S : Sto) : D → Bool
  | .str _ => T == "str"
  | .int _ => T == "int"
  | .loc n => match S[n]? with
    | some (.lst _) => T == "list"
    | some (.dK _) => T == "dict"
    | some (.dT _) => T == "dict"
    | _ => false
  | _ => false
theorem tyD_of {K : PySem.W.Frag} {T : String} {S ρ H x d} (s : Sim ρ S H) (r : Rep H ρ x d) (h : tyD T S d = true) : tyV K T x H := by
  cases d with
  | str z => cases r; exact beq_iff_eq.mp h
  | int z => cases r; exact beq_iff_eq.mp h
  | loc n =>
    cases r with
    | loc e =>
      simp only [tyD] at h
      cases q : S[n]? with
      | none => rw [q] at h; cases h
      | some o =>
        rw [q] at h
        obtain ⟨a, e1, ro⟩ := s.at_ n o q
        rw [e] at e1; cases e1
        cases o with
        | lst ds => obtain ⟨xs, e2, _⟩ := ro; exact .inl ⟨beq_iff_eq.mp h, xs, .of e2⟩
        | dK ds => obtain ⟨xs, e2, _⟩ := ro; exact .inr (.inr (.inl ⟨beq_iff_eq.mp h, .inl ⟨xs, e2⟩⟩))
        | dT ds => obtain ⟨xs, e2, _⟩ := ro; exact .inr (.inr (.inl ⟨beq_iff_eq.mp h, .inr ⟨xs, e2⟩⟩))
        | ins _ _ => cases h
  | _ => cases h
@[simp] def bmK (T : String) (f : D → List D → Sto → R D) (t : Ma) (σ : Sd) (x : D) (S1 : Sto) : R D := if tyD T S1 x = true then (t σ S1).bind (f x) else .bad
@[simp] def mBM (T : String) (f : D → List D → Sto → R D) (o : Me) (t : Ma) (σ : Sd) (S : Sto) : R D := (o σ S).bind (bmK T f t σ)
theorem fe_bm {T : String} {name : Str} {o : Expr} {apos cpos : Pos} {mo : Me} {f : D → List D → Sto → R D} (pa : PlainAttrs T) (slot : Slot T name id) (hty : typeOf (.builtin id) = pure (.type "method_descriptor")) (hm : MtF X E id f) (ho : FE X E o mo) (ha : FA X E (e :: es) t)
    (hbase : attributeBase o name X.env (eval o X.env) = eval o X.env := by rfl)
    (hfew : ((backTo cpos (starEach (e :: es) X.env)).all (fun x => !x.1) && (backToKw cpos (keywordEach [] X.env)).all (fun x => x.1.isSome)
      && decide ((e :: es).length + ([] : List Keyword).length + (if ([] : List Keyword).isEmpty then 0 else 1) < 30)) = true := by rfl)
    (hline : (apos.endLine == cpos.line) = true := by rfl) (hs : starEach (e :: es) X.env = (false, eval e X.env) :: starEach es X.env := by rfl) (hplain : (backTo cpos (starEach es X.env)).any (·.1) = false := by rfl) :
    FE X E (.Call (.Attribute o name apos) (e :: es) [] cpos) (mBM T f mo t) := by
  obtain ⟨r, h1, h2⟩ := hm.ex
  refine pe_imp (pe_bm pa slot hty h1 ho ha hbase hfew hline hs hplain) fun σ H Q ⟨ρ, S, σd, s, r, h⟩ => ⟨ρ, S, σd, s, r, (PostG.bind (rel := Rep) h).mono fun x H1 ⟨ρ1, S1, dx, e1, s1, q1, h1⟩ => ?_⟩
  unfold bmK at h1
  split at h1
  · rename_i ht
    exact ⟨tyD_of s1 q1 ht, ρ1, S1, σd, s1, r.ext s e1, (PostG.bind (rel := Reps) h1).mono fun xs H2 ⟨ρ2, S2, ds, e2, s2, q2, h3⟩ => h2 ρ2 S2 H2 x xs dx ds Q s2 (q1.ext s1 e2) q2 h3⟩
  · exact h1.elim
theorem fe_bm0 {T : String} {name : Str} {o : Expr} {apos cpos : Pos} {mo : Me} {f : D → List D → Sto → R D} (pa : PlainAttrs T) (slot : Slot T name id) (hty : typeOf (.builtin id) = pure (.type "method_descriptor")) (hm : MtF X E id f) (ho : FE X E o mo)
    (hbase : attributeBase o name X.env (eval o X.env) = eval o X.env := by rfl) (hline : (apos.endLine == cpos.line) = true := by rfl) :
    FE X E (.Call (.Attribute o name apos) [] [] cpos) (mBM T f mo aNil) := by
  obtain ⟨r, h1, h2⟩ := hm.ex
  refine pe_imp (pe_bm0 pa slot hty h1 ho hbase hline) fun σ H Q ⟨ρ, S, σd, s, r, h⟩ => ⟨ρ, S, σd, s, r, (PostG.bind (rel := Rep) h).mono fun x H1 ⟨ρ1, S1, dx, e1, s1, q1, h1⟩ => ?_⟩
  unfold bmK at h1
  split at h1
  · rename_i ht
    exact ⟨tyD_of s1 q1 ht, h2 ρ1 S1 H1 x [] dx [] Q s1 q1 .nil h1⟩
  · exact h1.elim
end
end FL
set_option Elab.async false
set_option linter.all false
set_option maxRecDepth 100000
set_option maxHeartbeats 4000000
/-! FL3: functional readings of statements, targets, loops, comprehensions, defs. -/
namespace FL
open PySem PySem.Spec PyProof.Rows L2

inductive Fl where
  | nx (σ : Sd) (S : Sto) | ret (d : D) (S : Sto) | brk (σ : Sd) (S : Sto) | cont (σ : Sd) (S : Sto) | exc (c : Value) (fs : Option (List (Str × D))) (S : Sto) | bad
abbrev Ms := Sd → Sto → Fl
def R.fl {α : Type} (r : R α) (k : α → Sto → Fl) : Fl := match r with
  | .ok a S => k a S
  | .exc c fs S => .exc c fs S
  | .bad => .bad
@[simp] theorem R.fl_ok {α : Type} (a : α) (S : Sto) (k : α → Sto → Fl) : (R.ok a S).fl k = k a S := rfl
@[simp] theorem R.fl_exc {α : Type} (c fs S) (k : α → Sto → Fl) : (R.exc c fs S).fl k = .exc c fs S := rfl
@[simp] theorem R.fl_bad {α : Type} (k : α → Sto → Fl) : (R.bad).fl k = .bad := rfl
def Fl.sq (r : Fl) (b : Sd → Sto → Fl) : Fl := match r with
  | .nx σ' S' => b σ' S'
  | r => r
@[simp] theorem Fl.sq_nx (σ S b) : (Fl.nx σ S).sq b = b σ S := rfl
@[simp] theorem Fl.sq_ret (d S b) : (Fl.ret d S).sq b = .ret d S := rfl
@[simp] theorem Fl.sq_brk (σ S b) : (Fl.brk σ S).sq b = .brk σ S := rfl
@[simp] theorem Fl.sq_cont (σ S b) : (Fl.cont σ S).sq b = .cont σ S := rfl
@[simp] theorem Fl.sq_exc (c fs S b) : (Fl.exc c fs S).sq b = .exc c fs S := rfl
@[simp] theorem Fl.sq_bad (b) : Fl.bad.sq b = .bad := rfl
def PostS (E : XK) (ρ : List Addr) (H : Hp) (D : Ends) : Fl → Prop
  | .nx σd S' => ∀ σ' ρ' H', Ext ρ H ρ' H' → Sim ρ' S' H' → SRep H' ρ' σ' σd → D.nx σ' H'
  | .ret d S' => ∀ v ρ' H', Ext ρ H ρ' H' → Sim ρ' S' H' → Rep H' ρ' v d → D.rt v H'
  | .brk σd S' => ∀ σ' ρ' H', Ext ρ H ρ' H' → Sim ρ' S' H' → SRep H' ρ' σ' σd → D.bk σ' H'
  | .cont σd S' => ∀ σ' ρ' H', Ext ρ H ρ' H' → Sim ρ' S' H' → SRep H' ρ' σ' σd → D.ct σ' H'
  | .exc c fs S' => PX E ρ H c fs S'
  | .bad => False
abbrev tFS (E : XK) (m : Ms) : TS := fun D σ H => ∃ ρ S σd, Sim ρ S H ∧ SRep H ρ σ σd ∧ PostS E ρ H D (m σd S)
abbrev FS (X : Cx) (E : XK) (st : Stmt) (m : Ms) : Prop := PS X st (tFS E m)
abbrev FSs (X : Cx) (E : XK) (st : List Stmt) (m : Ms) : Prop := PSs X st (tFS E m)
section
variable {E : XK} {ρ ρ1 : List Addr} {H H1 : Hp} {D D' : Ends}
theorem PostS.weak {r : Fl} (h : PostS E ρ H D r) (e : Ext ρ H ρ1 H1) : PostS E ρ1 H1 D r := by
  cases r with
  | nx d S' => exact fun v ρ' H' e' s q => h v ρ' H' (e.trans e') s q
  | ret d S' => exact fun v ρ' H' e' s q => h v ρ' H' (e.trans e') s q
  | brk d S' => exact fun v ρ' H' e' s q => h v ρ' H' (e.trans e') s q
  | cont d S' => exact fun v ρ' H' e' s q => h v ρ' H' (e.trans e') s q
  | exc c fs S' => exact PX.weak h e
  | bad => exact h
theorem PostG.fl {α β : Type} {rel : Hp → List Addr → β → α → Prop} {m : R α} {k : α → Sto → Fl} (h : PostS E ρ H D (m.fl k)) :
    PostG rel E ρ H (fun v H1 => ∃ ρ1 S1 x, Ext ρ H ρ1 H1 ∧ Sim ρ1 S1 H1 ∧ rel H1 ρ1 v x ∧ PostS E ρ1 H1 D (k x S1)) m := by
  cases m with
  | ok d S' => exact fun v ρ' H' e s q => ⟨ρ', S', d, e, s, q, PostS.weak h e⟩
  | exc c fs S' => exact h
  | bad => exact h
/-- .. what is wanted, unweakened -/
theorem PostG.bind' {α β γ δ : Type} {rel : Hp → List Addr → β → α → Prop} {rel2 : Hp → List Addr → δ → γ → Prop} {m : R α} {k : α → Sto → R γ} {Q : δ → Hp → Prop} (h : PostG rel2 E ρ H Q (m.bind k)) (e : Ext ρ H ρ1 H1) :
    PostG rel E ρ1 H1 (fun v H2 => ∃ ρ2 S2 x, Ext ρ1 H1 ρ2 H2 ∧ Sim ρ2 S2 H2 ∧ rel H2 ρ2 v x ∧ PostG rel2 E ρ H Q (k x S2)) m := by
  cases m with
  | ok d S' => exact fun v ρ' H' e s q => ⟨ρ', S', d, e, s, q, h⟩
  | exc c fs S' => exact PX.weak h e
  | bad => exact h
end

/-! ### blocks, small statements -/
@[simp] def mNext (σ : Sd) (S : Sto) : Fl := .nx σ S
@[simp] def mSeq (a b : Ms) (σ : Sd) (S : Sto) : Fl := (a σ S).sq b
@[simp] def mBrk (σ : Sd) (S : Sto) : Fl := .brk σ S
@[simp] def mCont (σ : Sd) (S : Sto) : Fl := .cont σ S
@[simp] def dropK (σ : Sd) (_ : D) (S' : Sto) : Fl := .nx σ S'
@[simp] def mDrop (e : Me) (σ : Sd) (S : Sto) : Fl := (e σ S).fl (dropK σ)
@[simp] def mRet (e : Me) (σ : Sd) (S : Sto) : Fl := (e σ S).fl Fl.ret
@[simp] def mRetN (_ : Sd) (S : Sto) : Fl := .ret .non S
@[simp] def ifK (a b : Ms) (σ : Sd) (x : Bool) (S1 : Sto) : Fl := brK x a b σ S1
@[simp] def mIfS (t : Mt) (a b : Ms) (σ : Sd) (S : Sto) : Fl := (t σ S).fl (ifK a b σ)
@[simp] def setK (i : Nat) (σ : Sd) (d : D) (S' : Sto) : Fl := .nx (σ.set i (some d)) S'
@[simp] def mSet (i : Nat) (e : Me) (σ : Sd) (S : Sto) : Fl := (e σ S).fl (setK i σ)
section
variable {X : Cx} {E : XK} {pos : Pos} {st : Stmt} {rest : List Stmt} {m m' : Ms} {e c : Expr} {me : Me} {mt : Mt}
theorem fss_nil : FSs X E [] mNext := pss_imp pss_nil fun D σ H ⟨ρ, S, σd, s, r, h⟩ => h σ ρ H .refl s r
theorem fss_cons (h1 : FS X E st m) (h2 : FSs X E rest m') : FSs X E (st :: rest) (mSeq m m') :=
  pss_imp (pss_cons h1 h2) fun D σ H ⟨ρ, S, σd, s, r, h⟩ => by
    refine ⟨ρ, S, σd, s, r, ?_⟩
    unfold mSeq at h
    cases q : m σd S with
    | nx σ' S' => rw [q] at h; exact fun σ1 ρ1 H1 e1 s1 r1 => ⟨ρ1, S', σ', s1, r1, PostS.weak h e1⟩
    | ret _ _ => rw [q] at h; exact h
    | brk _ _ => rw [q] at h; exact h
    | cont _ _ => rw [q] at h; exact h
    | exc _ _ _ => rw [q] at h; exact h
    | bad => rw [q] at h; exact h
theorem fss_one (h1 : FS X E st m) : FSs X E [st] m := pss_one h1
theorem fs_pass : FS X E (.Pass pos) mNext := ps_imp ps_pass fun D σ H ⟨ρ, S, σd, s, r, h⟩ => h σ ρ H .refl s r
theorem fs_brk : FS X E (.Break pos) mBrk := ps_imp ps_break fun D σ H ⟨ρ, S, σd, s, r, h⟩ => h σ ρ H .refl s r
theorem fs_cont : FS X E (.Continue pos) mCont := ps_imp ps_continue fun D σ H ⟨ρ, S, σd, s, r, h⟩ => h σ ρ H .refl s r
theorem fs_doc {x j pos'} : FS X E (.Expr (.Constant (.str x) j pos) pos') mNext := ps_imp ps_doc fun D σ H ⟨ρ, S, σd, s, r, h⟩ => h σ ρ H .refl s r
theorem fs_expr (he : FE X E e me) (hs : swapsWith e none pos.line X.env = pure false := by rfl) : FS X E (.Expr e pos) (mDrop me) :=
  ps_imp (ps_expr he hs) fun D σ H ⟨ρ, S, σd, s, r, h⟩ => ⟨ρ, S, σd, s, r, (PostG.fl (rel := Rep) h).mono fun x H1 ⟨ρ1, S1, dx, e1, s1, q1, h1⟩ => h1 σ ρ1 H1 .refl s1 (r.ext s e1)⟩
theorem fs_ret (he : FE X E e me) : FS X E (.Return (some e) pos) (mRet me) :=
  ps_imp (ps_ret he) fun D σ H ⟨ρ, S, σd, s, r, h⟩ => ⟨ρ, S, σd, s, r, (PostG.fl (rel := Rep) h).mono fun x H1 ⟨ρ1, S1, dx, e1, s1, q1, h1⟩ => h1 x ρ1 H1 .refl s1 q1⟩
theorem fs_retN : FS X E (.Return none pos) mRetN := ps_imp ps_retN fun D σ H ⟨ρ, S, σd, s, r, h⟩ => h .non ρ H .refl s .non
theorem fs_if {a b : List Stmt} (hc : FT X E c mt) (ha : FSs X E a m) (hb : FSs X E b m') : FS X E (.If c a b pos) (mIfS mt m m') :=
  ps_imp (ps_if hc ha hb) fun D σ H ⟨ρ, S, σd, s, r, h⟩ => ⟨ρ, S, σd, s, r, (PostG.fl (rel := relB) h).mono fun x H1 ⟨ρ1, S1, dx, e1, s1, q1, h1⟩ => by
    cases (show x = dx from q1)
    cases x with
    | true => rw [if_pos rfl]; exact ⟨ρ1, S1, σd, s1, r.ext s e1, h1⟩
    | false => rw [if_neg Bool.false_ne_true]; exact ⟨ρ1, S1, σd, s1, r.ext s e1, h1⟩⟩
theorem fs_set {i : Nat} {x : Str} {pos' : Pos} (hN : X.N.Nodup) (hi : X.N[i]? = some x) (hx : Loc X.env.scope x) (he : FE X E e me) (hs : swapsWith e (some (.Name x pos')) pos.line X.env = pure false := by rfl) (hf : X.fn x = true ∨ X.env.scope.names.lookup x = some .local := by first | exact .inl rfl | exact .inr rfl | assumption) :
    FS X E (.Assign [.Name x pos'] e pos) (mSet i me) :=
  ps_imp (ps_set hN hi hx he hs hf) fun D σ H ⟨ρ, S, σd, s, r, h⟩ => ⟨ρ, S, σd, s, r, (PostG.fl (rel := Rep) h).mono fun x H1 ⟨ρ1, S1, dx, e1, s1, q1, h1⟩ => h1 _ ρ1 H1 .refl s1 ((r.ext s e1).set q1 i)⟩

/-! ### targets -/
abbrev Mg := D → Sd → Sto → R Sd
abbrev Mgs := List D → Sd → Sto → R Sd
def relSd (is : List Nat) (σ : L2.St) : Hp → List Addr → L2.St → Sd → Prop := fun H ρ σ' σd => SRep H ρ σ' σd ∧ ∀ vs, (∀ i ∈ is, i ∈ vs) → wipe σ' vs = wipe σ vs
def tGg (E : XK) (g : Mg) (is : List Nat) : TG := fun v σ H Q => ∃ ρ S σd d, Sim ρ S H ∧ SRep H ρ σ σd ∧ Rep H ρ v d ∧ PostG (relSd is σ) E ρ H Q (g d σd S)
def tGgs (E : XK) (g : Mgs) (is : List Nat) : TGs := fun vs σ H Q => ∃ ρ S σd ds, Sim ρ S H ∧ SRep H ρ σ σd ∧ Reps H ρ vs ds ∧ PostG (relSd is σ) E ρ H Q (g ds σd S)
abbrev FG (X : Cx) (E : XK) (tg : Expr) (g : Mg) (is : List Nat) : Prop := PG X tg (tGg E g is)
abbrev FGs (X : Cx) (E : XK) (tg : List Expr) (g : Mgs) (is : List Nat) : Prop := PGs X tg (tGgs E g is)
theorem pg_imp {tg : Expr} {t t' : TG} (h : PG X tg t) (i : ∀ v σ H Q, t' v σ H Q → t v σ H Q) : PG X tg t' := ⟨fun pins s σ H v u Q I r hw => h.run pins s σ H v u Q I r (i _ _ _ _ hw)⟩
theorem pgs_imp {tg : List Expr} {t t' : TGs} (h : PGs X tg t) (i : ∀ v σ H Q, t' v σ H Q → t v σ H Q) : PGs X tg t' := ⟨fun pins s σ H v u Q I r hw => h.run pins s σ H v u Q I r (i _ _ _ _ hw)⟩
theorem wipe_set {α : Type} (x : Option V) (i : Nat) : ∀ (vs : List Nat) (σ : L2.St), i ∈ vs → wipe (σ.set i x) vs = wipe σ vs
  | [], _, h => by simp at h
  | v :: vs, σ, h => by
    by_cases hv : i ∈ vs
    · show (wipe (σ.set i x) vs).set v none = _
      rw [wipe_set (α := α) x i vs σ hv]
      rfl
    · have e : i = v := by
        rcases List.mem_cons.mp h with h | h
        · exact h
        · exact absurd h hv
      subst e
      have key : ∀ (ws : List Nat) (τ : L2.St), (wipe (τ.set i x) ws).set i none = (wipe τ ws).set i none := by
        intro ws
        induction ws with
        | nil => intro τ; show (τ.set i x).set i none = τ.set i none; rw [List.set_set]
        | cons w ws ih =>
          intro τ
          show ((wipe (τ.set i x) ws).set w none).set i none = ((wipe τ ws).set w none).set i none
          by_cases hw : w = i
          · subst hw; rw [List.set_set, List.set_set, ih]
          · rw [List.set_comm _ _ hw, ih, List.set_comm _ _ (Ne.symm hw)]
      exact key vs σ
@[simp] def gN (i : Nat) (d : D) (σ : Sd) (S : Sto) : R Sd := .ok (σ.set i (some d)) S
theorem fg_name {i : Nat} {x : Str} (hN : X.N.Nodup) (hi : X.N[i]? = some x) (hx : Loc X.env.scope x) (hf : X.fn x = true ∨ X.env.scope.names.lookup x = some .local := by first | exact .inl rfl | exact .inr rfl | assumption) : FG X E (.Name x pos) (gN i) [i] :=
  pg_imp (pg_name hN hi hx hf) fun v σ H Q ⟨ρ, S, σd, d, s, r, q, h⟩ => h.here s ⟨r.set q i, fun vs hv => wipe_set (α := Unit) _ i vs σ (hv i (by simp))⟩
@[simp] def gsNil (ds : List D) (σ : Sd) (S : Sto) : R Sd := match ds with
  | [] => .ok σ S
  | _ => .bad
@[simp] def gsCons (g : Mg) (t : Mgs) (ds : List D) (σ : Sd) (S : Sto) : R Sd := match ds with
  | [] => .bad
  | d :: r => (g d σ S).bind (t r)
@[simp] def gTp (n : Nat) (t : Mgs) (d : D) (σ : Sd) (S : Sto) : R Sd := match d with
  | .tup ds => if ds.length = n then t ds σ S else .bad
  | _ => .bad
theorem fgs_nil : FGs X E [] gsNil [] := pgs_imp pgs_nil fun v σ H Q ⟨ρ, S, σd, ds, s, r, q, h⟩ => by
  cases q with
  | nil => exact ⟨rfl, h.here s ⟨r, fun _ _ => rfl⟩⟩
  | cons _ _ => exact h.elim
theorem fgs_cons {tg : Expr} {tgs : List Expr} {g : Mg} {t : Mgs} {is js : List Nat} (h1 : FG X E tg g is) (h2 : FGs X E tgs t js) (hs : (assignEach (tg :: tgs) X.env).map (·.2) = assign tg X.env :: (assignEach tgs X.env).map (·.2) := by rfl) :
    FGs X E (tg :: tgs) (gsCons g t) (is ++ js) :=
  pgs_imp (pgs_cons h1 h2 hs) fun v σ H Q ⟨ρ, S, σd, ds, s, r, q, h⟩ => by
    cases q with
    | nil => exact h.elim
    | cons q1 q2 =>
      refine ⟨_, _, rfl, ρ, S, σd, _, s, r, q1, (PostG.bind (rel := relSd is σ) h).mono fun σ1 H1 ⟨ρ1, S1, σd1, e1, s1, ⟨r1, w1⟩, h1⟩ => ?_⟩
      refine ⟨ρ1, S1, σd1, _, s1, r1, q2.ext s e1, ?_⟩
      have h1' := h1
      revert h1'
      generalize t _ σd1 S1 = rr
      intro h1'
      cases rr with
      | ok σd2 S2 => exact fun σ2 ρ2 H2 e2 s2 ⟨r2, w2⟩ => h1' σ2 ρ2 H2 e2 s2 ⟨r2, fun vs hv => by rw [w2 vs fun i hi => hv i (List.mem_append_right _ hi), w1 vs fun i hi => hv i (List.mem_append_left _ hi)]⟩
      | exc _ _ _ => exact h1'
      | bad => exact h1'
theorem fg_tup {es : List Expr} {k : Nat} {t : Mgs} {n : Nat} {is : List Nat} (hc : X.calm = true) (h : FGs X E es t is) (hn : (assignEach es X.env).length = n := by rfl) (hst : (assignEach es X.env).findIdx? (·.1) = none := by rfl) : FG X E (.Tuple es k pos) (gTp n t) is :=
  pg_imp (pg_tup hc h hn hst) fun v σ H Q ⟨ρ, S, σd, d, s, r, q, h⟩ => by
    cases d with
    | tup ds =>
      cases q with
      | tup e1 q1 =>
        unfold gTp at h
        simp only at h
        split at h
        · rename_i hl
          exact ⟨_, _, rfl, .of e1, by rw [q1.length]; exact hl, ρ, S, σd, ds, s, r, q1, h⟩
        · exact h.elim
    | _ => exact h.elim
/-- o[i] = v, by values -/
structure SetF (X : Cx) (f : D → D → D → Sto → Option Sto) : Prop where
  ex : ∃ t, PSet X t ∧ ∀ ρ S H o i v do_ di dv S' Q, Sim ρ S H → Rep H ρ o do_ → Rep H ρ i di → Rep H ρ v dv → f do_ di dv S = some S' → (∀ H', Ext ρ H ρ H' → Sim ρ S' H' → Q H') → t o i v H Q
@[simp] def ofO {α : Type} (r : Option Sto) (k : Sto → R α) : R α := match r with
  | some S => k S
  | none => .bad
@[simp] def gSbK2 (f : D → D → D → Sto → Option Sto) (v : D) (σ : Sd) (x y : D) (S2 : Sto) : R Sd := ofO (f x y v S2) (R.ok σ)
@[simp] def gSbK (f : D → D → D → Sto → Option Sto) (i : Me) (v : D) (σ : Sd) (x : D) (S1 : Sto) : R Sd := (i σ S1).bind (gSbK2 f v σ x)
@[simp] def gSb (f : D → D → D → Sto → Option Sto) (o i : Me) (v : D) (σ : Sd) (S : Sto) : R Sd := (o σ S).bind (gSbK f i v σ)
theorem fg_sub {o i : Expr} {mo mi : Me} {f : D → D → D → Sto → Option Sto} (ho : FE X E o mo) (hi : FE X E i mi) (hs : SetF X f)
    (ha : ∀ v, assign (.Subscript o i pos) X.env v = (do
      let ov ← holding [v] (eval o X.env)
      let iv ← holding [v, ov] (eval i X.env)
      standAt pos
      holding [v, ov, iv] (setItem ov iv v)
      release [v, ov, iv] []) := by intro _; rfl) : FG X E (.Subscript o i pos) (gSb f mo mi) [] := by
  obtain ⟨t, h1, h2⟩ := hs.ex
  refine pg_imp (pg_sub ho hi h1 ha) fun v σ H Q ⟨ρ, S, σd, d, s, r, q, h⟩ => ?_
  refine ⟨ρ, S, σd, s, r, (PostG.bind (rel := Rep) h).mono fun x H1 ⟨ρ1, S1, dx, e1, s1, q1, h1⟩ => ?_⟩
  refine ⟨ρ1, S1, σd, s1, r.ext s e1, (PostG.bind (rel := Rep) h1).mono fun y H2 ⟨ρ2, S2, dy, e2, s2, q2, h3⟩ => ?_⟩
  simp only [gSbK2, ofO] at h3
  cases hf : f dx dy d S2 with
  | none => rw [hf] at h3; exact h3.elim
  | some S3 =>
    rw [hf] at h3
    refine h2 ρ2 S2 H2 x y v dx dy d S3 _ s2 (q1.ext s1 e2) q2 ((q.ext s e1).ext s1 e2) hf fun H3 e3 s3 => ?_
    exact h3 σ ρ2 H3 e3 s3 ⟨((r.ext s e1).ext s1 e2).ext s2 e3, fun _ _ => rfl⟩
@[simp] def asgK (g : Mg) (σ : Sd) (d : D) (S1 : Sto) : Fl := (g d σ S1).fl Fl.nx
@[simp] def mAsg (e : Me) (g : Mg) (σ : Sd) (S : Sto) : Fl := (e σ S).fl (asgK g σ)
theorem fs_asg {tg : Expr} {g : Mg} {is : List Nat} (he : FE X E e me) (hg : FG X E tg g is) (hs : swapsWithSole [tg] e pos.line X.env = pure false := by rfl) (hw : swappedStores [tg] e X.env = pure none := by rfl)
    (h1 : (assignEach [tg] X.env).map (·.2) = [assign tg X.env] := by rfl) : FS X E (.Assign [tg] e pos) (mAsg me g) :=
  ps_imp (ps_asg he hg hs hw h1) fun D σ H ⟨ρ, S, σd, s, r, h⟩ => ⟨ρ, S, σd, s, r, (PostG.fl (rel := Rep) h).mono fun x H1 ⟨ρ1, S1, dx, e1, s1, q1, h1⟩ =>
    ⟨ρ1, S1, σd, dx, s1, r.ext s e1, q1, (PostG.fl (rel := relSd is σ) h1).mono fun σ2 H2 ⟨ρ2, S2, σd2, e2, s2, ⟨r2, _⟩, h2⟩ => h2 σ2 ρ2 H2 .refl s2 r2⟩⟩
/-- name op= e -/
structure IpF (X : Cx) (E : XK) (op : Operator) (f : Fn2) : Prop where
  ex : ∃ r, PIp X op r ∧ R2Ok E r f
@[simp] def augK2 (i : Nat) (f : Fn2) (σ : Sd) (x y : D) (S2 : Sto) : Fl := (f x y S2).fl (setK i σ)
@[simp] def augK (i : Nat) (f : Fn2) (e : Me) (σ : Sd) (x : D) (S1 : Sto) : Fl := (e σ S1).fl (augK2 i f σ x)
@[simp] def mAug (i : Nat) (f : Fn2) (e : Me) (σ : Sd) (S : Sto) : Fl := (mVar i σ S).fl (augK i f e σ)
theorem fs_aug {i : Nat} {x : Str} {op : Operator} {f : Fn2} {pos' : Pos} (hN : X.N.Nodup) (hi : X.N[i]? = some x) (hx : Loc X.env.scope x) (he : FE X E e me) (ho : IpF X E op f) (hf : X.fn x = true ∨ X.env.scope.names.lookup x = some .local := by first | exact .inl rfl | exact .inr rfl | assumption) :
    FS X E (.AugAssign (.Name x pos') op e pos) (mAug i f me) := by
  obtain ⟨r0, h1, h2⟩ := ho.ex
  refine ps_imp (ps_aug hN hi hx he h1 hf) fun D σ H ⟨ρ, S, σd, s, r, h⟩ => ?_
  unfold mAug mVar at h
  split at h
  · rename_i d ed
    rw [R.fl_ok] at h
    obtain ⟨v, e1, q⟩ := r.at_ i d ed
    refine ⟨v, e1, ρ, S, σd, s, r, (PostG.fl (rel := Rep) h).mono fun y H1 ⟨ρ1, S1, dy, e1, s1, q1, h1⟩ => ?_⟩
    refine h2 ρ1 S1 H1 v y d dy _ s1 (q.ext s e1) q1 ((PostG.fl (rel := Rep) h1).mono fun z H2 ⟨ρ2, S2, dz, e2, s2, q2, h3⟩ => ?_)
    exact h3 _ ρ2 H2 .refl s2 (((r.ext s e1).ext s1 e2).set q2 i)
  · exact h.elim
/-- o[i] op= e -/
structure GetF (X : Cx) (E : XK) (f : Fn2) : Prop where
  ex : ∃ r, PGet X r ∧ R2Ok E r f
@[simp] def nxO (σ : Sd) : Option Sto → Fl
  | some S => .nx σ S
  | none => .bad
@[simp] def aggK5 (fs : D → D → D → Sto → Option Sto) (σ : Sd) (x y z : D) (S5 : Sto) : Fl := nxO σ (fs x y z S5)
@[simp] def aggK4 (fo : Fn2) (fs : D → D → D → Sto → Option Sto) (σ : Sd) (x y a b : D) (S4 : Sto) : Fl := (fo a b S4).fl (aggK5 fs σ x y)
@[simp] def aggK3 (fo : Fn2) (fs : D → D → D → Sto → Option Sto) (e : Me) (σ : Sd) (x y a : D) (S3 : Sto) : Fl := (e σ S3).fl (aggK4 fo fs σ x y a)
@[simp] def aggK2 (fg fo : Fn2) (fs : D → D → D → Sto → Option Sto) (e : Me) (σ : Sd) (x y : D) (S2 : Sto) : Fl := (fg x y S2).fl (aggK3 fo fs e σ x y)
@[simp] def aggK (fg fo : Fn2) (fs : D → D → D → Sto → Option Sto) (i e : Me) (σ : Sd) (x : D) (S1 : Sto) : Fl := (i σ S1).fl (aggK2 fg fo fs e σ x)
@[simp] def mAugS (fg fo : Fn2) (fs : D → D → D → Sto → Option Sto) (o i e : Me) (σ : Sd) (S : Sto) : Fl := (o σ S).fl (aggK fg fo fs i e σ)
theorem fs_augS {o i : Expr} {mo mi : Me} {fg fo : Fn2} {fs : D → D → D → Sto → Option Sto} {op : Operator} {tpos : Pos} (ho : FE X E o mo) (hi : FE X E i mi) (hg : GetF X E fg) (he : FE X E e me) (hp : IpF X E op fo) (hs : SetF X fs)
    (ha : ∀ ov iv new, augStore i ov iv new = (do holding [new, ov, iv] (setItem ov iv new); release [new, ov, iv] []; pure .next) := by intros; rfl) : FS X E (.AugAssign (.Subscript o i tpos) op e pos) (mAugS fg fo fs mo mi me) := by
  obtain ⟨rg, hg1, hg2⟩ := hg.ex
  obtain ⟨rp, hp1, hp2⟩ := hp.ex
  obtain ⟨rs, hs1, hs2⟩ := hs.ex
  refine ps_imp (ps_augS ho hi hg1 he hp1 hs1 ha) fun D σ H ⟨ρ, S, σd, s, r, h⟩ => ?_
  refine ⟨ρ, S, σd, s, r, (PostG.fl (rel := Rep) h).mono fun x H1 ⟨ρ1, S1, dx, e1, s1, q1, h1⟩ => ?_⟩
  refine ⟨ρ1, S1, σd, s1, r.ext s e1, (PostG.fl (rel := Rep) h1).mono fun y H2 ⟨ρ2, S2, dy, e2, s2, q2, h2⟩ => ?_⟩
  refine hg2 ρ2 S2 H2 x y dx dy _ s2 (q1.ext s1 e2) q2 ((PostG.fl (rel := Rep) h2).mono fun a H3 ⟨ρ3, S3, da, e3, s3, q3, h3⟩ => ?_)
  have r3 := ((r.ext s e1).ext s1 e2).ext s2 e3
  refine ⟨ρ3, S3, σd, s3, r3, (PostG.fl (rel := Rep) h3).mono fun b H4 ⟨ρ4, S4, db, e4, s4, q4, h4⟩ => ?_⟩
  refine hp2 ρ4 S4 H4 a b da db _ s4 (q3.ext s3 e4) q4 ((PostG.fl (rel := Rep) h4).mono fun z H5 ⟨ρ5, S5, dz, e5, s5, q5, h5⟩ => ?_)
  simp only [aggK5, nxO] at h5
  cases hf : fs dx dy dz S5 with
  | none => rw [hf] at h5; exact h5.elim
  | some S6 =>
    rw [hf] at h5
    refine hs2 ρ5 S5 H5 x y z dx dy dz S6 _ s5 ((((q1.ext s1 e2).ext s2 e3).ext s3 e4).ext s4 e5) (((q2.ext s2 e3).ext s3 e4).ext s4 e5) q5 hf fun H6 e6 s6 => ?_
    exact h5 σ ρ5 H6 e6 s6 (((r3.ext s3 e4).ext s4 e5).ext s5 e6)
end
end FL
set_option Elab.async false
set_option linter.all false
set_option maxRecDepth 100000
set_option maxHeartbeats 4000000
/-! FL4: loops, comprehensions, defs. -/
namespace FL
open PySem PySem.Spec PyProof.Rows L2

/-! ### what a loop walks: items; the list of the store that they are read from -/
inductive Src where
  | its (ds : List D) | lst (n : Nat) (ds : List D)
@[simp] def Src.items : Src → List D
  | .its ds => ds
  | .lst _ ds => ds
def okSrc (S : Sto) : Src → Prop
  | .its _ => True
  | .lst n ds => S[n]? = some (.lst ds)
def relSrc : Hp → List Addr → It → Src → Prop := fun H ρ J src => ∀ (i : Nat) ρ' S' H', Ext ρ H ρ' H' → Sim ρ' S' H' → okSrc S' src →
  (∀ d, src.items[i]? = some d → J.go i H' ∧ ∀ x H'', J.yld i H' x H'' → ∃ ρ'', Ext ρ' H' ρ'' H'' ∧ Sim ρ'' S' H'' ∧ Rep H'' ρ'' x d) ∧ (src.items[i]? = none → J.stop i H')
abbrev Mi := Sd → Sto → R Src
abbrev tFI (E : XK) (m : Mi) : TI := fun σ H Q => ∃ ρ S σd, Sim ρ S H ∧ SRep H ρ σ σd ∧ PostG relSrc E ρ H Q (m σd S)
abbrev FI (X : Cx) (E : XK) (tg iter : Expr) (m : Mi) : Prop := PI X tg iter (tFI E m)
theorem pi_imp {X : Cx} {tg iter : Expr} {t t' : TI} (h : PI X tg iter t) (i : ∀ σ H Q, t' σ H Q → t σ H Q) : PI X tg iter t' := ⟨fun pins s σ H Q I hw => h.run pins s σ H Q I (i _ _ _ hw)⟩
open Classical in
noncomputable def chk {α : Type} (S : Sto) (src : Src) (r b : α) : α := match src with
  | .its _ => r
  | .lst n ds => if S[n]? = some (.lst ds) then r else b
@[simp] theorem chk_its {α : Type} (S : Sto) (ds : List D) (r b : α) : chk S (.its ds) r b = r := rfl
theorem chk_lst {α : Type} {S : Sto} {n : Nat} {ds : List D} {r b : α} (h : S[n]? = some (.lst ds)) : chk S (.lst n ds) r b = r := by
  unfold chk
  simp only
  rw [if_pos h]
theorem chk_cases {α : Type} {P : α → Prop} {S : Sto} {src : Src} {r b : α} (h : P (chk S src r b)) (hb : ¬ P b) : okSrc S src ∧ P r := by
  cases src with
  | its ds => exact ⟨trivial, h⟩
  | lst n ds =>
    unfold chk at h
    simp only at h
    split at h
    · exact ⟨by assumption, h⟩
    · exact absurd h hb

section
variable {X : Cx} {E : XK} {pos : Pos} {tg : Expr}
/-- the ints of a range -/
def rgD (lo : Int) (n : Nat) : List D := (List.range n).map fun (i : Nat) => .int (lo + (i : Int))
theorem rgD_get (lo : Int) (n i : Nat) : (rgD lo n)[i]? = if i < n then some (.int (lo + i)) else none := by
  unfold rgD
  rw [List.getElem?_map]
  by_cases h : i < n
  · rw [if_pos h, List.getElem?_range h]; rfl
  · rw [if_neg h, List.getElem?_eq_none (by simpa using h)]; rfl
theorem relSrc_rg {H ρ lo n} : relSrc H ρ (Itr lo n) (.its (rgD lo n)) := fun i ρ' S' H' e s _ => by
  show (∀ d, (rgD lo n)[i]? = some d → _) ∧ ((rgD lo n)[i]? = none → _)
  rw [rgD_get]
  by_cases h : i < n
  · rw [if_pos h]
    refine ⟨fun d hd => ⟨h, fun x H'' y => ?_⟩, fun z => nomatch z⟩
    cases hd
    obtain ⟨rfl, rfl⟩ := y
    exact ⟨ρ', .refl, s, .int _⟩
  · rw [if_neg h]
    exact ⟨fun d hd => (nomatch hd), fun _ => Nat.le_of_not_lt h⟩
@[simp] def rgOk (i : Int) : Bool := decide (-(2 ^ 62) ≤ i) && decide (i < 2 ^ 62)
@[simp] def fRg1 (ds : List D) (S : Sto) : R Src := match ds with
  | [.int j] => if rgOk j then .ok (.its (rgD 0 j.toNat)) S else .bad
  | _ => .bad
@[simp] def fRg2 (ds : List D) (S : Sto) : R Src := match ds with
  | [.int i, .int j] => if rgOk i && rgOk j then .ok (.its (rgD i (j - i).toNat)) S else .bad
  | _ => .bad
@[simp] def iRg (f : List D → Sto → R Src) (a : Ma) (σ : Sd) (S : Sto) : R Src := (a σ S).bind f
theorem rgOk_iff {i : Int} : rgOk i = true ↔ -(2 ^ 62) ≤ i ∧ i < 2 ^ 62 := by simp [rgOk]
theorem fi_range1 {a : Expr} {ma : Ma} {p pos : Pos} (hg : Gl X "range") (hm : X.mg "range" = none) (ha : FA X E [a] ma) (hs : starEach [a] X.env = [(false, eval a X.env)] := by rfl) : FI X E tg (.Call (.Name "range" p) [a] [] pos) (iRg fRg1 ma) :=
  pi_imp (pi_range1 hg hm ha hs) fun σ H Q ⟨ρ, S, σd, s, r, h⟩ => ⟨ρ, S, σd, s, r, (PostG.bind (rel := Reps) h).mono fun vs H1 ⟨ρ1, S1, ds, e1, s1, q1, h1⟩ => by
    unfold fRg1 at h1
    split at h1
    · cases q1 with
      | cons q1 q2 =>
        cases q2
        cases q1
        split at h1
        · rename_i hk
          have hk := rgOk_iff.mp hk
          exact ⟨_, rfl, hk.1, hk.2, h1.here s1 relSrc_rg⟩
        · exact h1.elim
    · exact h1.elim⟩
theorem fi_range2 {a b : Expr} {ma : Ma} {p pos : Pos} (hg : Gl X "range") (hm : X.mg "range" = none) (ha : FA X E [a, b] ma) (hs : starEach [a, b] X.env = [(false, eval a X.env), (false, eval b X.env)] := by rfl) (hs2 : starEach [b] X.env = [(false, eval b X.env)] := by rfl) :
    FI X E tg (.Call (.Name "range" p) [a, b] [] pos) (iRg fRg2 ma) :=
  pi_imp (pi_range2 hg hm ha hs hs2) fun σ H Q ⟨ρ, S, σd, s, r, h⟩ => ⟨ρ, S, σd, s, r, (PostG.bind (rel := Reps) h).mono fun vs H1 ⟨ρ1, S1, ds, e1, s1, q1, h1⟩ => by
    unfold fRg2 at h1
    split at h1
    · cases q1 with
      | cons q1 q2 =>
        cases q2 with
        | cons q2 q3 =>
          cases q3
          cases q1
          cases q2
          split at h1
          · rename_i hk
            simp only [Bool.and_eq_true] at hk
            have hi := rgOk_iff.mp hk.1
            have hj := rgOk_iff.mp hk.2
            exact ⟨_, _, rfl, ⟨hi.1, hi.2, hj.1, hj.2⟩, h1.here s1 relSrc_rg⟩
          · exact h1.elim
    · exact h1.elim⟩
/-- the items of a list, a tuple, a text -/
def strD (x : Str) : List D := x.cps.toList.map fun c => .str ⟨#[c]⟩
@[simp] def fIt (d : D) (S : Sto) : R Src := match d with
  | .tup ds => .ok (.its ds) S
  | .str x => .ok (.its (strD x)) S
  | .loc n => match S[n]? with
    | some (.lst ds) => .ok (.lst n ds) S
    | _ => .bad
  | _ => .bad
@[simp] def mIt (e : Me) (σ : Sd) (S : Sto) : R Src := (e σ S).bind fIt
theorem Reps.get {H ρ} : ∀ {vs : List V} {ds : List D} {i : Nat} {d : D}, Reps H ρ vs ds → ds[i]? = some d → ∃ v, vs[i]? = some v ∧ Rep H ρ v d
  | _, _, 0, _, .cons r _, e => by
    have e : _ = _ := Option.some.inj (by simpa using e)
    exact ⟨_, rfl, e ▸ r⟩
  | _, _, i + 1, _, .cons _ t, e => by
    obtain ⟨v, e1, r⟩ := Reps.get (i := i) t (by simpa using e)
    exact ⟨v, by simpa using e1, r⟩
theorem relSrc_tup {K : PySem.W.Frag} {ρ S H a xs ds} (s : Sim ρ S H) (ha : H a = some (.tup xs)) (q : Reps H ρ xs ds) : relSrc H ρ (Itt K a) (.its ds) := fun i ρ' S' H' e s' _ => by
  have h' : SqT K H' a xs := .of (s.tup e a xs ha)
  refine ⟨fun d hd => ?_, fun hn => ⟨xs, h', ?_⟩⟩
  · obtain ⟨v, e1, r⟩ := (q.ext s e).get (show ds[i]? = some d from hd)
    refine ⟨⟨xs, v, h', e1⟩, fun x H'' y => ?_⟩
    obtain ⟨rfl, fv⟩ := y
    have := fv xs h'
    rw [e1] at this; cases this
    exact ⟨ρ', .refl, s', r⟩
  · rw [q.length]
    have hn : ds[i]? = none := hn
    exact List.getElem?_eq_none_iff.mp hn
theorem relSrc_lst {K : PySem.W.Frag} {ρ S H a n ds} (s : Sim ρ S H) (ha : ρ[n]? = some a) : relSrc H ρ (Itl K a) (.lst n ds) := fun i ρ' S' H' e s' hS => by
  obtain ⟨b, eb, xs, hx, q⟩ := s'.at_ n _ (show S'[n]? = some (.lst ds) from hS)
  have := prefix_get e.pre ha
  rw [eb] at this; cases this
  have h' : SqL K H' _ xs := .of hx
  refine ⟨fun d hd => ?_, fun hn => ⟨xs, h', ?_⟩⟩
  · obtain ⟨v, e1, r⟩ := q.get (show ds[i]? = some d from hd)
    refine ⟨⟨xs, v, h', e1⟩, fun x H'' y => ?_⟩
    obtain ⟨rfl, fv⟩ := y
    have := fv xs h'
    rw [e1] at this; cases this
    exact ⟨ρ', .refl, s', r⟩
  · rw [q.length]
    have hn : ds[i]? = none := hn
    exact List.getElem?_eq_none_iff.mp hn
theorem relSrc_str {ρ H x} : relSrc H ρ (Its x) (.its (strD x)) := fun i ρ' S' H' e s' _ => by
  show (∀ d, (strD x)[i]? = some d → _) ∧ ((strD x)[i]? = none → _)
  unfold strD
  rw [List.getElem?_map, Array.getElem?_toList]
  refine ⟨fun d hd => ?_, fun hn => ?_⟩
  · cases hc : x.cps[i]? with
    | none => rw [hc] at hd; cases hd
    | some c =>
      rw [hc] at hd
      cases hd
      refine ⟨?_, fun y H'' hy => ?_⟩
      · show i < x.cps.size
        rcases Nat.lt_or_ge i x.cps.size with h | h
        · exact h
        · rw [Array.getElem?_eq_none h] at hc; cases hc
      · obtain ⟨rfl, c', h1, rfl⟩ := hy
        rw [hc] at h1; cases h1
        exact ⟨ρ', .refl, s', .str _⟩
  · cases hc : x.cps[i]? with
    | none => exact Array.getElem?_eq_none_iff.mp hc
    | some c => rw [hc] at hn; cases hn
theorem pi_or {iter : Expr} {t t' : TI} (h : PI X tg iter t) (h' : PI X tg iter t') : PI X tg iter (fun σ H R => t σ H R ∨ t' σ H R) := ⟨fun pins s σ H R I hw => hw.elim (h.run pins s σ H R I) (h'.run pins s σ H R I)⟩
theorem fi_any {e : Expr} {m : Me} (he : FE X E e m) : FI X E tg e (mIt m) := by
  refine pi_imp (pi_or (pi_tup he) (pi_or (pi_list he) (pi_str he))) fun σ H Q ⟨ρ, S, σd, s, r, h⟩ => ?_
  unfold mIt at h
  cases hm : m σd S with
  | ok d S1 =>
    have go : ∀ {P : VK}, (∀ v ρ' H', Ext ρ H ρ' H' → Sim ρ' S1 H' → Rep H' ρ' v d → PostG relSrc E ρ' H' Q (fIt d S1) → P v H') → tF E m σ H P := fun {P} k =>
      ⟨ρ, S, σd, s, r, by rw [hm]; exact fun v ρ' H' e s' q => k v ρ' H' e s' q (by rw [hm] at h; exact PostG.weak h e)⟩
    cases d with
    | tup ds =>
      refine .inl (go fun v ρ' H' e s' q hf => ?_)
      cases q with
      | tup ha q => exact ⟨_, rfl, ⟨_, .of ha⟩, hf.here s' (relSrc_tup s' ha q)⟩
    | str x =>
      refine .inr (.inr (go fun v ρ' H' e s' q hf => ?_))
      cases q
      exact ⟨x, rfl, hf.here s' relSrc_str⟩
    | loc n =>
      refine .inr (.inl (go fun v ρ' H' e s' q hf => ?_))
      cases q with
      | loc ha =>
        simp only [fIt] at hf
        split at hf
        · rename_i ds hS
          obtain ⟨b, eb, xs, hx, q⟩ := s'.at_ n _ hS
          rw [ha] at eb; cases eb
          exact ⟨_, rfl, ⟨xs, .of hx⟩, hf.here s' (relSrc_lst s' ha)⟩
        · exact hf.elim
    | _ => rw [hm] at h; exact h.elim
  | exc c fs S1 => exact .inl ⟨ρ, S, σd, s, r, by rw [hm]; rw [hm] at h; exact h⟩
  | bad => rw [hm] at h; exact h.elim

/-! ### for -/
noncomputable def forL (src : Src) (g : Mg) (b : Ms) : List D → Sd → Sto → Fl
  | [], σ, S => chk S src (.nx σ S) .bad
  | d :: ds, σ, S => chk S src ((g d σ S).fl fun σ1 S1 => match b σ1 S1 with
    | .nx σ2 S2 => forL src g b ds σ2 S2
    | .cont σ2 S2 => forL src g b ds σ2 S2
    | .brk σ2 S2 => .nx σ2 S2
    | r => r) .bad
@[simp] noncomputable def forK (g : Mg) (b : Ms) (σ : Sd) (src : Src) (S1 : Sto) : Fl := forL src g b src.items σ S1
@[simp] noncomputable def mFor (i : Mi) (g : Mg) (b : Ms) (σ : Sd) (S : Sto) : Fl := (i σ S).fl (forK g b σ)
theorem fs_for {iter : Expr} {body : List Stmt} {mi : Mi} {g : Mg} {is : List Nat} {b : Ms} (hp : PassesOwn (model X.prog X.w) X.A X.env X.xe) (hc : X.calm = true) (hi : FI X E tg iter mi) (hg : FG X E tg g is) (hb : FSs X E body b)
    (hs : ∀ x, foldedSetIterable iter X.env x = pure x := by intro _; rfl) : FS X E (.For tg iter body [] pos) (mFor mi g b) := by
  refine ps_imp (ps_for hp hc hi hg hb hs) fun D σ H ⟨ρ, S, σd, s, r, h⟩ => ?_
  refine ⟨ρ, S, σd, s, r, (PostG.fl (rel := relSrc) h).mono fun J H1 ⟨ρ1, S1, src, e1, s1, q1, h1⟩ => ?_⟩
  refine ⟨fun i m σ' H' => m = src.items.length - i ∧ i ≤ src.items.length ∧ ∃ ρ' S' σd', Ext ρ1 H1 ρ' H' ∧ Sim ρ' S' H' ∧ SRep H' ρ' σ' σd' ∧ PostS E ρ' H' D (forL src g b (src.items.drop i) σd' S'),
    ⟨_, rfl, Nat.zero_le _, ρ1, S1, σd, .refl, s1, r.ext s e1, h1⟩, ?_⟩
  rintro i m σ' H' ⟨rfl, hi, ρ', S', σd', e', s', r', h'⟩
  cases hd : src.items[i]? with
  | none =>
    have hl : src.items.length ≤ i := List.getElem?_eq_none_iff.mp hd
    rw [List.drop_of_length_le hl] at h'
    unfold forL at h'
    obtain ⟨ok, h'⟩ := chk_cases h' (fun z => z)
    exact .inl ⟨(q1 i ρ' S' H' e' s' ok).2 hd, h' σ' ρ' H' .refl s' r'⟩
  | some d =>
    have hl : i < src.items.length := by
      rcases Nat.lt_or_ge i src.items.length with h | h
      · exact h
      · rw [List.getElem?_eq_none h] at hd; cases hd
    have ed : src.items.drop i = d :: src.items.drop (i + 1) := by
      rw [List.drop_eq_getElem_cons hl]
      rw [List.getElem?_eq_getElem hl] at hd
      rw [Option.some.inj hd]
    rw [ed] at h'
    unfold forL at h'
    obtain ⟨ok, h'⟩ := chk_cases h' (fun z => z)
    obtain ⟨go, yl⟩ := (q1 i ρ' S' H' e' s' ok).1 d hd
    refine .inr ⟨go, fun σ2 H2 => ∃ ρ2 S2 σd2, Ext ρ1 H1 ρ2 H2 ∧ Sim ρ2 S2 H2 ∧ SRep H2 ρ2 σ2 σd2 ∧ PostS E ρ2 H2 D (forL src g b (src.items.drop (i + 1)) σd2 S2), fun σ2 H2 w => ⟨_, by omega, rfl, hl, w⟩, fun x H'' y => ?_⟩
    obtain ⟨ρ'', e'', s'', rx⟩ := yl x H'' y
    refine ⟨ρ'', S', σd', d, s'', r'.ext s' e'', rx, (PostG.fl (rel := relSd is σ') (PostS.weak h' e'')).mono fun σ3 H3 ⟨ρ3, S3, σd3, e3, s3, ⟨r3, _⟩, h3⟩ => ?_⟩
    refine ⟨ρ3, S3, σd3, s3, r3, ?_⟩
    have e13 := (e'.trans e'').trans e3
    revert h3
    cases hb' : b σd3 S3 with
    | nx σ4 S4 => exact fun h3 σ5 ρ5 H5 e5 s5 r5 => ⟨ρ5, S4, σ4, e13.trans e5, s5, r5, PostS.weak h3 e5⟩
    | cont σ4 S4 => exact fun h3 σ5 ρ5 H5 e5 s5 r5 => ⟨ρ5, S4, σ4, e13.trans e5, s5, r5, PostS.weak h3 e5⟩
    | brk σ4 S4 => exact fun h3 => h3
    | ret d S4 => exact fun h3 => h3
    | exc _ _ _ => exact fun h3 => h3
    | bad => exact fun h3 => h3
end
end FL
set_option Elab.async false
set_option linter.all false
set_option maxRecDepth 100000
set_option maxHeartbeats 4000000
/-! FL5: comprehensions, while, defs. -/
namespace FL
open PySem PySem.Spec PyProof.Rows L2

/-! ### list comprehensions -/
def wipeD (σ : Sd) : List Nat → Sd
  | [] => σ
  | v :: vs => (wipeD σ vs).set v none
theorem SRep.wipe {H ρ σ σd} (r : SRep H ρ σ σd) : ∀ vs : List Nat, SRep H ρ (L2.wipe σ vs) (wipeD σd vs)
  | [] => r
  | v :: vs => by
    have ih := SRep.wipe r vs
    refine ⟨by simp [wipeD, L2.wipe, ih.len], fun k x h => ?_⟩
    have h : ((wipeD σd vs).set v none)[k]? = some (some x) := h
    show ∃ w, ((L2.wipe σ vs).set v none)[k]? = some (some w) ∧ _
    by_cases hk : v = k
    · subst hk
      by_cases hl : v < (wipeD σd vs).length
      · rw [List.getElem?_set_self hl] at h; cases h
      · rw [List.getElem?_eq_none (by simpa using hl)] at h; cases h
    · rw [List.getElem?_set_ne hk] at h
      rw [List.getElem?_set_ne hk]
      exact ih.at_ k x h
theorem set_wipe (x : Option V) : ∀ (ws : List Nat) (τ : L2.St) (i : Nat), (L2.wipe (τ.set i none) ws).set i x = (L2.wipe τ ws).set i x
  | [], τ, i => by show (τ.set i none).set i x = τ.set i x; rw [List.set_set]
  | w :: ws, τ, i => by
    show ((L2.wipe (τ.set i none) ws).set w none).set i x = ((L2.wipe τ ws).set w none).set i x
    by_cases hw : w = i
    · subst hw; rw [List.set_set, List.set_set, set_wipe x ws τ w]
    · rw [List.set_comm _ _ hw, set_wipe x ws τ i, List.set_comm _ _ (Ne.symm hw)]
theorem wipe_wipe : ∀ (vs : List Nat) (σ : L2.St), L2.wipe (L2.wipe σ vs) vs = L2.wipe σ vs
  | [], _ => rfl
  | v :: vs, σ => by
    show (L2.wipe ((L2.wipe σ vs).set v none) vs).set v none = (L2.wipe σ vs).set v none
    rw [set_wipe none vs _ v, wipe_wipe vs σ]
noncomputable def compL (src : Src) (g : Mg) (t : Mt) (e : Me) (vs : List Nat) (σ : Sd) : List D → List D → Sto → R D
  | [], acc, S => chk S src (.ok (.loc S.length) (S ++ [.lst acc])) .bad
  | d :: ds, acc, S => chk S src ((g d (wipeD σ vs) S).bind fun σ1 S1 => (t σ1 S1).bind fun k S2 => match k with
    | true => (e σ1 S2).bind fun y S3 => if acc.length < sizeLine then compL src g t e vs σ ds (acc ++ [y]) S3 else .bad
    | false => compL src g t e vs σ ds acc S2) .bad
@[simp] noncomputable def compK (g : Mg) (t : Mt) (e : Me) (vs : List Nat) (σ : Sd) (src : Src) (S1 : Sto) : R D := compL src g t e vs σ src.items [] S1
@[simp] noncomputable def mComp (i : Mi) (g : Mg) (t : Mt) (e : Me) (vs : List Nat) (σ : Sd) (S : Sto) : R D := (i σ S).bind (compK g t e vs σ)
@[simp] def mYes (_ : Sd) (S : Sto) : R Bool := .ok true S
structure FTs (X : Cx) (E : XK) (ifs : List Expr) (t : Mt) : Prop where
  pts : PTs X ifs (tFT E t)
theorem pts_imp {X : Cx} {ifs : List Expr} {t t' : TT} (h : PTs X ifs t) (i : ∀ σ H Q, t' σ H Q → t σ H Q) : PTs X ifs t' := ⟨fun pins s σ H Q I hw => h.run pins s σ H Q I (i _ _ _ hw)⟩
theorem fts_nil {X : Cx} {E : XK} : FTs X E [] mYes := ⟨pts_imp pts_nil fun σ H Q ⟨ρ, S, σd, s, r, h⟩ => h.here s rfl⟩
theorem fts_one {X : Cx} {E : XK} {c : Expr} {t : Mt} (h : FT X E c t) : FTs X E [c] t := ⟨pts_one h⟩
/-- an untracked list becomes the store's last object -/
theorem Sim.adopt {ρ S H a xs ds} (s : Sim ρ S H) (hn : a ∉ ρ) (ha : H a = some (.lst xs)) (q : Reps H ρ xs ds) : Sim (ρ ++ [a]) (S ++ [.lst ds]) H := by
  have pre : ρ <+: ρ ++ [a] := List.prefix_append _ _
  refine ⟨by simp [s.len], ?_, fun n w h => ?_⟩
  · refine List.nodup_append.mpr ⟨s.nd, by simp, fun b hb c hc => ?_⟩
    rintro rfl
    exact hn (by rw [← List.mem_singleton.mp hc]; exact hb)
  · by_cases hn : n < S.length
    · rw [List.getElem?_append_left hn] at h
      obtain ⟨b, e1, r⟩ := s.at_ n w h
      exact ⟨b, prefix_get pre e1, r.mono pre (fun _ _ h => h) fun u h => h⟩
    · have hn2 : n = S.length := by
        have : n < (S ++ [O.lst ds]).length := by
          rcases Nat.lt_or_ge n (S ++ [O.lst ds]).length with h' | h'
          · exact h'
          · rw [List.getElem?_eq_none h'] at h; cases h
        simp at this; omega
      subst hn2
      have h2 : O.lst ds = w := by simpa using h
      subst h2
      exact ⟨a, by rw [← s.len]; simp, xs, ha, q.mono pre fun _ _ h => h⟩
theorem Reps.snoc {H ρ v d} : ∀ {vs ds}, Reps H ρ vs ds → Rep H ρ v d → Reps H ρ (vs ++ [v]) (ds ++ [d])
  | _, _, .nil, r => .cons r .nil
  | _, _, .cons q t, r => .cons q (Reps.snoc t r)
section
variable {X : Cx} {E : XK} {pos : Pos}
theorem tLc_of {wi : Mi} {g : Mg} {t : Mt} {e : Me} {vs is : List Nat} (hv : ∀ i ∈ is, i ∈ vs) {σ H Q} (h : tF E (mComp wi g t e vs) σ H Q) : tLc (tFI E wi) (tGg E g is) (tFT E t) (tF E e) vs σ H Q := by
  obtain ⟨ρ, S, σd, s, r, h⟩ := h
  refine ⟨ρ, S, σd, s, r, (PostG.bind (rel := relSrc) h).mono fun J H1 ⟨ρ1, S1, src, e1, s1, q1, h1⟩ => ?_⟩
  intro A hA
  have r1 := r.ext s e1
  -- behind the new list
  have ext0 : ∀ {ρ' H' xs}, Ext ρ1 H1 ρ' H' → A ∉ ρ' → Ext ρ1 H1 ρ' (upd H' A (.lst xs)) := fun {ρ' H' xs} e hn => ⟨e.pre, e.new, fun b o hb hn2 => by
    rw [upd_ne (ne_of_none hb hA)]; exact e.fr b o hb hn2⟩
  have simA : ∀ {ρ' S' H' xs}, Sim ρ' S' H' → A ∉ ρ' → (∀ ys, H' A ≠ some (.tup ys)) → Sim ρ' S' (upd H' A (.lst xs)) := fun {ρ' S' H' xs} s hn ht => by
    refine ⟨s.len, s.nd, fun n o ho => ?_⟩
    obtain ⟨b, eb, ro⟩ := s.at_ n o ho
    have hb : b ≠ A := fun z => hn (by rw [← z]; exact List.mem_of_getElem? eb)
    refine ⟨b, eb, ro.mono (List.prefix_refl _) (fun c ys hc => ?_) fun u hu => by rw [upd_ne hb]; exact hu⟩
    rw [upd_ne (fun z => ht ys (by rw [← z]; exact hc))]; exact hc
  have repA : ∀ {ρ' H' xs v d}, (∀ ys, H' A ≠ some (.tup ys)) → Rep H' ρ' v d → Rep (upd H' A (.lst xs)) ρ' v d := fun {ρ' H' xs v d} ht q => q.mono (List.prefix_refl _) fun c ys hc => by
    rw [upd_ne (fun z => ht ys (by rw [← z]; exact hc))]; exact hc
  have repsA : ∀ {ρ' H' xs v d}, (∀ ys, H' A ≠ some (.tup ys)) → Reps H' ρ' v d → Reps (upd H' A (.lst xs)) ρ' v d := fun {ρ' H' xs v d} ht q => q.mono (List.prefix_refl _) fun c ys hc => by
    rw [upd_ne (fun z => ht ys (by rw [← z]; exact hc))]; exact hc
  have nA1 : A ∉ ρ1 := s1.fresh hA
  refine ⟨fun i m H' => m = src.items.length - i ∧ i ≤ src.items.length ∧ ∃ ρ' S' acc xs, Ext ρ1 H1 ρ' H' ∧ Sim ρ' S' H' ∧ A ∉ ρ' ∧ H' A = some (.lst xs) ∧ Reps H' ρ' xs acc ∧
      PostG Rep E ρ1 H1 Q (compL src g t e vs σd (src.items.drop i) acc S'), ⟨_, rfl, Nat.zero_le _, ρ1, S1, [], [], ext0 .refl nA1, simA s1 nA1 (fun ys z => by rw [hA] at z; cases z), nA1, upd_same, .nil, h1⟩, ?_⟩
  rintro i m H' ⟨rfl, hi, ρ', S', acc, xs, e', s', nA, hAx, qa, h'⟩
  cases hd : src.items[i]? with
  | none =>
    have hl : src.items.length ≤ i := List.getElem?_eq_none_iff.mp hd
    rw [List.drop_of_length_le hl] at h'
    unfold compL at h'
    obtain ⟨ok, h'⟩ := chk_cases (P := PostG Rep E ρ1 H1 Q) h' (fun z => z)
    refine .inl ⟨(q1 i ρ' S' H' e' s' ok).2 hd, h' _ (ρ' ++ [A]) H' ⟨e'.pre.trans (List.prefix_append _ _), fun b hb hn => ?_, fun b o hb hn => e'.fr b o hb hn⟩ (s'.adopt nA hAx qa) (.loc (by rw [← s'.len]; simp))⟩
    rcases List.mem_append.mp hb with hb | hb
    · exact e'.new b hb hn
    · rw [List.mem_singleton.mp hb]; exact hA
  | some d =>
    have hl : i < src.items.length := by
      rcases Nat.lt_or_ge i src.items.length with h | h
      · exact h
      · rw [List.getElem?_eq_none h] at hd; cases hd
    have ed : src.items.drop i = d :: src.items.drop (i + 1) := by
      rw [List.drop_eq_getElem_cons hl]
      rw [List.getElem?_eq_getElem hl] at hd
      rw [Option.some.inj hd]
    rw [ed] at h'
    unfold compL at h'
    obtain ⟨ok, h'⟩ := chk_cases (P := PostG Rep E ρ1 H1 Q) h' (fun z => z)
    obtain ⟨go, yl⟩ := (q1 i ρ' S' H' e' s' ok).1 d hd
    refine .inr ⟨go, fun H2 => ∃ ρ2 S2 acc xs, Ext ρ1 H1 ρ2 H2 ∧ Sim ρ2 S2 H2 ∧ A ∉ ρ2 ∧ H2 A = some (.lst xs) ∧ Reps H2 ρ2 xs acc ∧ PostG Rep E ρ1 H1 Q (compL src g t e vs σd (src.items.drop (i + 1)) acc S2),
      fun H2 w => ⟨_, by omega, rfl, hl, w⟩, fun x H2 y => ?_⟩
    obtain ⟨ρ2, e2, s2, rx⟩ := yl x H2 y
    have keep : ∀ {ρ3 H3}, Ext ρ' H' ρ3 H3 → A ∉ ρ3 ∧ H3 A = some (.lst xs) := fun {ρ3 H3} e3 => ⟨fun z => (by
      have := e3.new A z nA
      rw [hAx] at this
      cases this), e3.fr A _ hAx nA⟩
    have e12 := e'.trans e2
    refine ⟨ρ2, S', wipeD σd vs, d, s2, ((r1.wipe vs).ext s1 e12), rx, (PostG.bind' (rel := relSd is (wipe σ vs)) h' e12).mono fun σ3 H3 ⟨ρ3, S3, σd3, e3, s3, ⟨r3, w3⟩, h3⟩ => ⟨(w3 vs hv).trans (wipe_wipe vs σ), ?_⟩⟩
    have hb := PostG.bind' (rel := relB) h3 (e12.trans e3)
    refine ⟨ρ3, S3, σd3, s3, r3, hb.mono ?_⟩
    rintro k H4 ⟨ρ4, S4, k', e4, s4, q4, h4⟩
    cases (show k = k' from q4)
    cases k with
    | false =>
      rw [if_neg Bool.false_ne_true]
      have e24 := (e2.trans e3).trans e4
      exact ⟨ρ4, S4, acc, xs, e'.trans e24, s4, (keep e24).1, (keep e24).2, qa.ext s' e24, h4⟩
    | true =>
      rw [if_pos rfl]
      refine ⟨ρ4, S4, σd3, s4, r3.ext s3 e4, (PostG.bind' (rel := Rep) h4 ((e12.trans e3).trans e4)).mono fun y H5 ⟨ρ5, S5, dy, e5, s5, q5, h5⟩ => ?_⟩
      have e25 := ((e2.trans e3).trans e4).trans e5
      obtain ⟨nA5, hA5⟩ := keep e25
      have qa5 := qa.ext s' e25
      have ht : ∀ ys, H5 A ≠ some (.tup ys) := fun ys z => by rw [hA5] at z; cases z
      split at h5
      · rename_i hz
        exact ⟨xs, hA5, by rw [qa.length]; exact hz, ρ5, S5, acc ++ [dy], xs ++ [y], ext0 (e'.trans e25) nA5, simA s5 nA5 ht, nA5, upd_same, (repsA ht qa5).snoc (repA ht q5), h5⟩
      · exact h5.elim
theorem fe_lc {elt tg iter : Expr} {ifs : List Expr} {scope : Scope} {own : List (Str × Nat)} {mi : Mi} {g : Mg} {t : Mt} {me : Me} {is : List Nat} (hc : X.calm = true) (hN : X.N.Nodup) (hi : FI X E tg iter mi) (ok : BlkOk X.N X.env.scope scope own)
    (hg : ∀ (s : Shared) (H : Hp) (C : Addr) (cl : List (Str × Addr)) (fp : List Addr), FG (X.blk s H scope (compEnvC scope cl C X.env) fp) E tg g is) (ht : ∀ (s : Shared) (H : Hp) (C : Addr) (cl : List (Str × Addr)) (fp : List Addr), FTs (X.blk s H scope (compEnvC scope cl C X.env) fp) E ifs t)
    (he : ∀ (s : Shared) (H : Hp) (C : Addr) (cl : List (Str × Addr)) (fp : List Addr), FE (X.blk s H scope (compEnvC scope cl C X.env) fp) E elt me) (hv : ∀ i ∈ is, i ∈ own.map (·.2) := by decide) (hs : ∀ x, foldedSetIterable iter X.env x = pure x := by intro _; rfl) :
    FE X E (.ListComp elt [⟨tg, iter, ifs, 0⟩] scope pos) (mComp mi g t me (own.map (·.2))) :=
  pe_imp (pe_lc hc hN hi ok hg (fun s H C cl fp => (ht s H C cl fp).pts) he hs) fun σ H Q h => tLc_of hv h
theorem fs_setLc {i : Nat} {y : Str} {py : Pos} {elt tg iter : Expr} {ifs : List Expr} {scope : Scope} {own : List (Str × Nat)} {spos : Pos} {mi : Mi} {g : Mg} {t : Mt} {me : Me} {is : List Nat} (hc : X.calm = true) (hN : X.N.Nodup) (hy : X.N[i]? = some y) (hyl : X.env.scope.names.lookup y = some .local)
    (hsw : swapsWith (.ListComp elt [⟨tg, iter, ifs, 0⟩] scope pos) (some (.Name y py)) spos.line X.env = pure true) (hi : FI X E tg iter mi) (ok : BlkOk X.N X.env.scope scope own)
    (hg : ∀ (s : Shared) (H : Hp) (C : Addr) (cl : List (Str × Addr)) (fp : List Addr), FG (X.blk s H scope (compEnvC scope cl C X.env) fp) E tg g is) (ht : ∀ (s : Shared) (H : Hp) (C : Addr) (cl : List (Str × Addr)) (fp : List Addr), FTs (X.blk s H scope (compEnvC scope cl C X.env) fp) E ifs t)
    (he : ∀ (s : Shared) (H : Hp) (C : Addr) (cl : List (Str × Addr)) (fp : List Addr), FE (X.blk s H scope (compEnvC scope cl C X.env) fp) E elt me) (hv : ∀ i ∈ is, i ∈ own.map (·.2) := by decide) (hs : ∀ x, foldedSetIterable iter X.env x = pure x := by intro _; rfl) :
    FS X E (.Assign [.Name y py] (.ListComp elt [⟨tg, iter, ifs, 0⟩] scope pos) spos) (mSet i (mComp mi g t me (own.map (·.2)))) := by
  refine ps_imp (ps_setLc hc hN hy hyl hsw hi ok hg (fun s H C cl fp => (ht s H C cl fp).pts) he hs) fun D σ H ⟨ρ, S, σd, s, r, h⟩ => ?_
  refine tLc_of (Q := fun x H1 => gName i x σ H1 D.nx) hv ⟨ρ, S, σd, s, r, (PostG.fl (rel := Rep) h).mono fun x H1 ⟨ρ1, S1, dx, e1, s1, q1, h1⟩ => ?_⟩
  exact h1 _ ρ1 H1 .refl s1 ((r.ext s e1).set q1 i)
end

/-! ### while -/
noncomputable def whileF (t : Mt) (b : Ms) : Nat → Sd → Sto → Fl
  | 0, _, _ => .bad
  | n + 1, σ, S => (t σ S).fl fun k S1 => match k with
    | false => .nx σ S1
    | true => match b σ S1 with
      | .nx σ2 S2 => whileF t b n σ2 S2
      | .cont σ2 S2 => whileF t b n σ2 S2
      | .brk σ2 S2 => .nx σ2 S2
      | r => r
open Classical in
/-- with as many turns as it wants -/
noncomputable def mWhile (t : Mt) (b : Ms) (σ : Sd) (S : Sto) : Fl := if h : ∃ n, whileF t b n σ S ≠ .bad then whileF t b h.choose σ S else .bad
theorem whileF_more {t : Mt} {b : Ms} : ∀ {n m : Nat} {σ S}, whileF t b n σ S ≠ .bad → n ≤ m → whileF t b m σ S = whileF t b n σ S
  | 0, _, _, _, h, _ => absurd rfl h
  | n + 1, 0, _, _, _, hm => absurd hm (by omega)
  | n + 1, m + 1, σ, S, h, hm => by
    unfold whileF at h ⊢
    cases ht : t σ S with
    | exc _ _ _ => rfl
    | bad => rfl
    | ok k S1 =>
      rw [ht] at h
      simp only [R.fl_ok] at h ⊢
      cases k with
      | false => rfl
      | true =>
        simp only at h ⊢
        cases hb : b σ S1 with
        | nx σ2 S2 => rw [hb] at h; exact whileF_more (n := n) h (by omega)
        | cont σ2 S2 => rw [hb] at h; exact whileF_more (n := n) h (by omega)
        | _ => rfl
theorem mWhile_of {t : Mt} {b : Ms} {n : Nat} {σ S} (h : whileF t b n σ S ≠ .bad) : mWhile t b σ S = whileF t b n σ S := by
  have ex : ∃ n, whileF t b n σ S ≠ .bad := ⟨n, h⟩
  unfold mWhile
  rw [dif_pos ex]
  rcases Nat.le_total ex.choose n with hn | hn
  · exact (whileF_more ex.choose_spec hn).symm
  · exact whileF_more h hn
theorem mWhile_ex {t : Mt} {b : Ms} {σ S} (h : mWhile t b σ S ≠ .bad) : ∃ n, mWhile t b σ S = whileF t b n σ S := by
  unfold mWhile at h ⊢
  by_cases ex : ∃ n, whileF t b n σ S ≠ .bad
  · rw [dif_pos ex]; exact ⟨_, rfl⟩
  · rw [dif_neg ex] at h; exact absurd rfl h
section
variable {X : Cx} {E : XK} {pos : Pos}
theorem fs_while {c : Expr} {body : List Stmt} {t : Mt} {b : Ms} (hp : PassesOwn (model X.prog X.w) X.A X.env X.xe) (hc : FT X E c t) (hb : FSs X E body b) : FS X E (.While c body [] pos) (mWhile t b) := by
  refine ps_imp (ps_while hp hc hb) fun D σ H ⟨ρ, S, σd, s, r, h⟩ => ?_
  have hne : mWhile t b σd S ≠ .bad := fun z => by rw [z] at h; exact h
  obtain ⟨n, en⟩ := mWhile_ex hne
  rw [en] at h
  refine ⟨fun m σ' H' => ∃ ρ' S' σd', Sim ρ' S' H' ∧ SRep H' ρ' σ' σd' ∧ PostS E ρ' H' D (whileF t b m σd' S'), ⟨n, ρ, S, σd, s, r, h⟩, ?_⟩
  rintro m σ' H' ⟨ρ', S', σd', s', r', h'⟩
  cases m with
  | zero => exact h'.elim
  | succ m =>
    unfold whileF at h'
    refine ⟨ρ', S', σd', s', r', (PostG.fl (rel := relB) h').mono fun k H1 ⟨ρ1, S1, k', e1, s1, q1, h1⟩ => ?_⟩
    cases (show k = k' from q1)
    cases k with
    | false => rw [if_neg Bool.false_ne_true]; exact h1 σ' ρ1 H1 .refl s1 (r'.ext s' e1)
    | true =>
      rw [if_pos rfl]
      refine ⟨fun σ2 H2 => ∃ ρ2 S2 σd2, Sim ρ2 S2 H2 ∧ SRep H2 ρ2 σ2 σd2 ∧ PostS E ρ2 H2 D (whileF t b m σd2 S2), fun σ2 H2 w => ⟨m, Nat.lt_succ_self _, w⟩, ρ1, S1, σd', s1, r'.ext s' e1, ?_⟩
      revert h1
      cases hb' : b σd' S1 with
      | nx σ4 S4 => exact fun h3 σ5 ρ5 H5 e5 s5 r5 => ⟨ρ5, S4, σ4, s5, r5, PostS.weak h3 e5⟩
      | cont σ4 S4 => exact fun h3 σ5 ρ5 H5 e5 s5 r5 => ⟨ρ5, S4, σ4, s5, r5, PostS.weak h3 e5⟩
      | brk σ4 S4 => exact fun h3 => h3
      | ret d S4 => exact fun h3 => h3
      | exc _ _ _ => exact fun h3 => h3
      | bad => exact fun h3 => h3
end

/-! ### defs -/
mutual
def D.und (k : Nat) : D → Bool
  | .tup ds => D.unds k ds
  | .loc n => decide (n < k)
  | _ => true
def D.unds (k : Nat) : List D → Bool
  | [] => true
  | d :: ds => d.und k && D.unds k ds
end
def O.und (k : Nat) : O → Bool
  | .lst ds => D.unds k ds
  | .dK kvs => kvs.all fun p => p.2.und k
  | .dT kvs => kvs.all fun p => p.2.und k
  | .ins _ fs => fs.all fun p => p.2.und k
mutual
theorem Rep.narrow {H ρ ρ'} (hp : ρ <+: ρ') : ∀ {v d}, Rep H ρ' v d → d.und ρ.length = true → Rep H ρ v d
  | _, _, .non, _ => .non
  | _, _, .bl _, _ => .bl _
  | _, _, .int _, _ => .int _
  | _, _, .str _, _ => .str _
  | _, _, .ty _, _ => .ty _
  | _, _, .tup e q, h => .tup e (Reps.narrow hp q (by simpa only [D.und] using h))
  | _, _, .loc (n := n) e, h => by
    have hn : n < ρ.length := by simpa only [D.und, decide_eq_true_eq] using h
    obtain ⟨t, rfl⟩ := hp
    rw [List.getElem?_append_left hn] at e
    exact .loc e
theorem Reps.narrow {H ρ ρ'} (hp : ρ <+: ρ') : ∀ {v d}, Reps H ρ' v d → D.unds ρ.length d = true → Reps H ρ v d
  | _, _, .nil, _ => .nil
  | _, _, .cons r t, h => by
    simp only [D.unds, Bool.and_eq_true] at h
    exact .cons (Rep.narrow hp r h.1) (Reps.narrow hp t h.2)
end
mutual
theorem Rep.und {H ρ} : ∀ {v d}, Rep H ρ v d → d.und ρ.length = true
  | _, _, .non => rfl
  | _, _, .bl _ => rfl
  | _, _, .int _ => rfl
  | _, _, .str _ => rfl
  | _, _, .ty _ => rfl
  | _, _, .tup e q => by simp only [D.und]; exact Reps.und q
  | _, _, .loc (n := n) e => by
    have hn : n < ρ.length := by
      rcases Nat.lt_or_ge n ρ.length with h | h
      · exact h
      · rw [List.getElem?_eq_none h] at e; cases e
    simp only [D.und, decide_eq_true_eq]; exact hn
theorem Reps.und {H ρ} : ∀ {v d}, Reps H ρ v d → D.unds ρ.length d = true
  | _, _, .nil => rfl
  | _, _, .cons r t => by simp only [D.unds, Bool.and_eq_true]; exact ⟨Rep.und r, Reps.und t⟩
end
theorem RepF.narrow {κ : Type} {H ρ ρ'} (hp : ρ <+: ρ') : ∀ {gs : List (κ × V)} {fs : List (κ × D)}, RepF H ρ' gs fs → (fs.all fun p => p.2.und ρ.length) = true → RepF H ρ gs fs
  | _, _, .nil, _ => .nil
  | _, _, .cons ⟨e, r⟩ t, h => by
    simp only [List.all_cons, Bool.and_eq_true] at h
    exact .cons ⟨e, r.narrow hp h.1⟩ (RepF.narrow hp t h.2)
theorem RepF.und {κ : Type} {H ρ} : ∀ {gs : List (κ × V)} {fs : List (κ × D)}, RepF H ρ gs fs → (fs.all fun p => p.2.und ρ.length) = true
  | _, _, .nil => rfl
  | _, _, .cons ⟨e, r⟩ t => by
    simp only [List.all_cons, Bool.and_eq_true]
    exact ⟨r.und, RepF.und t⟩
theorem RepO.narrow {H ρ ρ' a o} (hp : ρ <+: ρ') (h : RepO H ρ' a o) (hb : o.und ρ.length = true) : RepO H ρ a o := by
  cases o with
  | lst ds => obtain ⟨xs, e, q⟩ := h; exact ⟨xs, e, q.narrow hp hb⟩
  | dK kvs => obtain ⟨xs, e, q⟩ := h; exact ⟨xs, e, q.narrow hp hb⟩
  | dT kvs => obtain ⟨xs, e, q⟩ := h; exact ⟨xs, e, q.narrow hp hb⟩
  | ins C fs => obtain ⟨dx, xs, e, q⟩ := h; exact ⟨dx, xs, e, q.narrow hp hb⟩
theorem RepO.und {H ρ a o} (h : RepO H ρ a o) : o.und ρ.length = true := by
  cases o with
  | lst ds => obtain ⟨xs, e, q⟩ := h; exact q.und
  | dK kvs => obtain ⟨xs, e, q⟩ := h; exact q.und
  | dT kvs => obtain ⟨xs, e, q⟩ := h; exact q.und
  | ins C fs => obtain ⟨dx, xs, e, q⟩ := h; exact q.und
def keptOk (S S' : Sto) : Prop := S.length ≤ S'.length ∧ ∀ i < S.length, S'[i]? = S[i]? ∨ ∃ o, S'[i]? = some o ∧ o.und S.length = true
open Classical in
/-- behind a def: what it has made and nobody knows is dropped -/
noncomputable def trim (S : Sto) (d : D) (S' : Sto) : R D :=
  if keptOk S S' then
    (if d.und S.length = true then .ok d (S'.take S.length) else match d with
      | .loc n => (match S'[n]? with
        | some o => if o.und S.length = true then .ok (.loc S.length) (S'.take S.length ++ [o]) else .ok d S'
        | none => .ok d S')
      | d => .ok d S')
  else .ok d S'
theorem Sim.take {ρ S ρ' S' H H'} (s : Sim ρ S H) (s' : Sim ρ' S' H') (e : Ext ρ H ρ' H') (k : keptOk S S') : Sim ρ (S'.take S.length) H' := by
  refine ⟨by rw [List.length_take, Nat.min_eq_left k.1, s.len], s.nd, fun n o ho => ?_⟩
  have hn : n < S.length := by
    rcases Nat.lt_or_ge n S.length with h | h
    · exact h
    · rw [List.getElem?_eq_none (by rw [List.length_take]; omega)] at ho; cases ho
  rw [List.getElem?_take_of_lt hn] at ho
  obtain ⟨a, ea, ro⟩ := s'.at_ n o ho
  have hb : o.und ρ.length = true := by
    rcases k.2 n hn with z | ⟨o', z, hb⟩
    · rw [ho] at z
      obtain ⟨a', _, ro'⟩ := s.at_ n o z.symm
      exact ro'.und
    · rw [ho] at z; cases z; rw [s.len]; exact hb
  have hp := e.pre
  refine ⟨a, ?_, ro.narrow hp hb⟩
  obtain ⟨t, rfl⟩ := hp
  rw [List.getElem?_append_left (by rw [s.len]; exact hn)] at ea
  exact ea
theorem trim_post {E : XK} {ρ S H ρ' S' H' v d Q} (s : Sim ρ S H) (e : Ext ρ H ρ' H') (s' : Sim ρ' S' H') (r : Rep H' ρ' v d) (h : PostG Rep E ρ H Q (trim S d S')) : Q v H' := by
  have go : PostG Rep E ρ H Q (.ok d S') → Q v H' := fun h => h v ρ' H' e s' r
  unfold trim at h
  split at h
  · rename_i k
    split at h
    · rename_i hb
      exact h v ρ H' ⟨List.prefix_refl _, fun _ z n => absurd z n, e.fr⟩ (s.take s' e k) (r.narrow e.pre (by rw [s.len]; exact hb))
    · split at h
      · rename_i n hb
        split at h
        · rename_i o ho
          split at h
          · rename_i hob
            cases r with
            | @loc a _ ea =>
              have hn : ¬ n < S.length := by simpa only [D.und, decide_eq_true_eq] using hb
              obtain ⟨a', ea', ro⟩ := s'.at_ n o ho
              rw [ea] at ea'; cases ea'
              have na : a ∉ ρ := fun z => by
                obtain ⟨j, hj, rfl⟩ := List.getElem_of_mem z
                have ej : ρ'[j]? = some ρ[j] := prefix_get e.pre (List.getElem?_eq_getElem hj)
                have : j = n := (List.getElem?_inj (by
                  have := List.IsPrefix.length_le e.pre; omega) s'.nd).mp (by rw [ej, ea])
                rw [s.len] at hj
                omega
              have hH : H a = none := e.new a (List.mem_of_getElem? ea) na
              have st := s.take s' e k
              have e2 : Ext ρ H (ρ ++ [a]) H' := ⟨List.prefix_append _ _, fun b hb2 hn2 => by
                rcases List.mem_append.mp hb2 with hb2 | hb2
                · exact absurd hb2 hn2
                · rw [List.mem_singleton.mp hb2]; exact hH, e.fr⟩
              have ro2 : RepO H' (ρ ++ [a]) a o := (ro.narrow e.pre (by rw [s.len]; exact hob)).mono (List.prefix_append _ _) (fun _ _ h => h) fun _ h => h
              refine h _ (ρ ++ [a]) H' e2 ⟨by rw [List.length_append, List.length_append, st.len] <;> rfl, ?_, fun m w hw => ?_⟩ (.loc (by rw [← s.len]; simp))
              · refine List.nodup_append.mpr ⟨s.nd, by simp, fun b hb c hc => ?_⟩
                rintro rfl
                exact na (by rw [← List.mem_singleton.mp hc]; exact hb)
              · have hlen : (S'.take S.length).length = S.length := by rw [List.length_take, Nat.min_eq_left k.1]
                by_cases hm : m < (S'.take S.length).length
                · rw [List.getElem?_append_left hm] at hw
                  obtain ⟨b, e1, rr⟩ := st.at_ m w hw
                  exact ⟨b, prefix_get (List.prefix_append _ _) e1, rr.mono (List.prefix_append _ _) (fun _ _ h => h) fun u h => h⟩
                · have hm2 : m = (S'.take S.length).length := by
                    have : m < (S'.take S.length ++ [o]).length := by
                      rcases Nat.lt_or_ge m (S'.take S.length ++ [o]).length with h' | h'
                      · exact h'
                      · rw [List.getElem?_eq_none h'] at hw; cases hw
                    rw [List.length_append] at this
                    simp at this; simp at hm ⊢; omega
                  subst hm2
                  have h2 : o = w := by simpa using hw
                  subst h2
                  exact ⟨a, by rw [hlen, ← s.len]; simp, ro2⟩
          · exact go h
        · exact go h
      · exact go h
  · exact go h
@[simp] noncomputable def trimF (S : Sto) : Fl → R D
  | .nx _ S' => trim S .non S'
  | .ret d S' => trim S d S'
  | .exc c fs S' => .exc c fs S'
  | _ => .bad
/-- a def of n parameters and N names -/
noncomputable def runB (n N : Nat) (m : Ms) (ds : List D) (S : Sto) : R D := if ds.length = n then trimF S (m (ds.map some ++ List.replicate (N - n) none) S) else .bad
theorem start_rep {N : List Str} {vs : List V} {ds : List D} {H ρ} (q : Reps H ρ vs ds) (hn : ds.length ≤ N.length) : SRep H ρ (L2.start N vs) (ds.map some ++ List.replicate (N.length - ds.length) none) := by
  have hl := q.length
  refine ⟨by unfold L2.start; simp [hl], fun i d h => ?_⟩
  have hi : i < ds.length := by
    rcases Nat.lt_or_ge i ds.length with h' | h'
    · exact h'
    · rw [List.getElem?_append_right (by simpa using h'), List.getElem?_replicate] at h
      split at h <;> cases h
  rw [List.getElem?_append_left (by simpa using hi), List.getElem?_map] at h
  cases hd : ds[i]? with
  | none => rw [hd] at h; cases h
  | some d' =>
    rw [hd] at h
    cases h
    obtain ⟨v, e1, r⟩ := q.get hd
    refine ⟨v, ?_, r⟩
    unfold L2.start
    rw [List.getElem?_append_left (by rw [List.length_map, hl]; exact hi), List.getElem?_map, e1]
    rfl
theorem runB_len {n N m ds S E ρ H Q} (h : PostG Rep E ρ H Q (runB n N m ds S)) : ds.length = n := by
  unfold runB at h
  split at h
  · assumption
  · exact h.elim
theorem runB_body {E : XK} {N : List Str} {n m ds S ρ H Q vs} (s : Sim ρ S H) (q : Reps H ρ vs ds) (hN : n ≤ N.length) (h : PostG Rep E ρ H Q (runB n N.length m ds S)) :
    tFS E m { nx := fun _ H' => Q .non H', rt := Q } (L2.start N vs) H := by
  have hl := runB_len h
  unfold runB at h
  rw [if_pos hl] at h
  subst hl
  refine ⟨ρ, S, _, s, start_rep q hN, ?_⟩
  revert h
  cases hm : m (ds.map some ++ List.replicate (N.length - ds.length) none) S with
  | nx σ' S' => exact fun h σ1 ρ1 H1 e1 s1 r1 => trim_post s e1 s1 .non h
  | ret d S' => exact fun h v ρ1 H1 e1 s1 r1 => trim_post s e1 s1 r1 h
  | brk _ _ => exact fun h => h.elim
  | cont _ _ => exact fun h => h.elim
  | exc _ _ _ => exact fun h => h
  | bad => exact fun h => h
theorem pass0' {X : Cx} {E : XK} : Passes CX0 X E := fun _ _ _ _ _ _ _ h => h.elim
section
variable {P : Program} {w : World} {K : PySem.W.Frag} {mg : Str → Option Value} {base : Heap}
/-- a def that lets no exception out does what its body's reading tells -/
theorem okF {x qual : Str} {st : Stmt} {f : Addr} {fd : FuncData} {N ps : List Str} {k : Nat} {m : Ms} (F : Fun K x qual st f fd) (S : FnScope N ps (defScope st)) (hN : ps.length ≤ N.length)
    (hbody : ∀ (cdv : Value) (A : Around) (outer : List Env) (s : Shared) (H : Hp) (E : XK), Room k (A.deeper (envOfC qual (defScope st) s.heap.objs.size f cdv)) →
      FSs (cxOf CX0 P w K mg base N qual (defScope st) f cdv A outer s H E).nox E (defBody st) m) : FnOk P w K mg base CX0 (k + 1) f fd ps (spF (runB ps.length N.length m)) := by
  refine F.ok S (fun vs H Q E ⟨ρ, S, ds, s, q, h⟩ => ?_) fun cdv A outer s H vs Q E hr ⟨ρ, S, ds, s', q, h⟩ => ⟨_, hbody cdv A outer s H E hr, runB_body s' q hN h⟩
  rw [q.length]
  exact runB_len h
end
end FL
set_option Elab.async false
set_option linter.all false
set_option maxRecDepth 100000
set_option maxHeartbeats 4000000
/-! FL6: operators, built-ins, subscripts. -/
namespace FL
open PySem PySem.Spec PyProof.Rows L2
theorem OpR.or {X : Cx} {g : Value → Value → Sem Value} {r r' : R2} (h : OpR X g r) (h' : OpR X g r') : OpR X g (fun x y H Q => r x y H Q ∨ r' x y H Q) := fun pins s σ H x y v u Q I rx ry q =>
  q.elim (h pins s σ H x y v u Q I rx ry) (h' pins s σ H x y v u Q I rx ry)
theorem CallR.or {X : Cx} {g : Value} {r r' : List V → Hp → VK → Prop} (h : CallR X g r) (h' : CallR X g r') : CallR X g (fun x H Q => r x H Q ∨ r' x H Q) := fun pins s σ H x v Q I rx q =>
  q.elim (h pins s σ H x v Q I rx) (h' pins s σ H x v Q I rx)
section
variable {X : Cx} {E : XK}
/-! ### arithmetic -/
@[simp] noncomputable def fAdd : Fn2
  | .int i, .int j, S => .ok (.int (i + j)) S
  | .str a, .str b, S => if a.length + b.length ≤ sizeLine then .ok (.str (a ++ b)) S else .bad
  | .tup a, .tup b, S => if a.length + b.length ≤ sizeLine then .ok (.tup (a ++ b)) S else .bad
  | .loc n, .loc m, S => match S[n]?, S[m]? with
    | some (.lst a), some (.lst b) => if a.length + b.length ≤ sizeLine then .ok (.loc S.length) (S ++ [.lst (a ++ b)]) else .bad
    | _, _ => .bad
  | _, _, _ => .bad
theorem Reps.append {H ρ} : ∀ {vs ds us es}, Reps H ρ vs ds → Reps H ρ us es → Reps H ρ (vs ++ us) (ds ++ es)
  | _, _, _, _, .nil, s => s
  | _, _, _, _, .cons r t, s => .cons r (Reps.append t s)
theorem op_addF : OpF X E (binaryOp .Add) fAdd := by
  refine ⟨_, OpR.or op_add (OpR.or op_add_str (OpR.or op_catA op_cat)), fun ρ S H x y dx dy Q s rx ry h => ?_⟩
  unfold fAdd at h
  split at h
  · cases rx; cases ry
    exact .inl ⟨_, _, rfl, rfl, h.here s (.int _)⟩
  · cases rx; cases ry
    split at h
    · rename_i hz
      exact .inr (.inl ⟨_, _, rfl, rfl, hz, h.here s (.str _)⟩)
    · exact h.elim
  · split at h
    · rename_i hz
      cases rx with
      | tup ex qx =>
        cases ry with
        | tup ey qy =>
          refine .inr (.inr (.inl ⟨_, _, _, _, rfl, rfl, .of ex, .of ey, by rw [qx.length, qy.length]; exact hz, fun hx => ?_, fun hx hy => ?_, fun hx hy => new_tup s (qx.append qy) h⟩))
          · subst hx
            cases qx
            exact h.here s (.tup ey qy)
          · subst hy
            cases qy
            rw [List.append_nil] at h
            exact h.here s (.tup ex qx)
    · exact h.elim
  · split at h
    · rename_i ha hb
      split at h
      · rename_i hz
        cases rx with
        | loc ex =>
          cases ry with
          | loc ey =>
            obtain ⟨a, ea, xs, hx, qx⟩ := s.at_ _ _ ha
            obtain ⟨b, eb, ys, hy, qy⟩ := s.at_ _ _ hb
            rw [ex] at ea; cases ea
            rw [ey] at eb; cases eb
            exact .inr (.inr (.inr ⟨_, _, xs, ys, rfl, rfl, hx, hy, by rw [qx.length, qy.length]; exact hz, new_lst s (qx.append qy) h⟩))
      · exact h.elim
    · exact h.elim
  · exact h.elim
@[simp] def smallI (i : Int) : Bool := decide (-(2 ^ 64) < i) && decide (i < 2 ^ 64)
@[simp] def fInt2 (C : Int → Int → Bool) (g : Int → Int → D) (x y : D) (S : Sto) : R D := match x, y with
  | .int i, .int j => if C i j = true then .ok (g i j) S else .bad
  | _, _ => .bad
theorem op_int2 {op : Value → Value → Sem Value} {C : Int → Int → Prop} {Cb : Int → Int → Bool} {g : Int → Int → V} {gd : Int → Int → D} (h : OpR X op (rI C g)) (hC : ∀ i j, Cb i j = true → C i j) (hg : ∀ H ρ i j, Rep H ρ (g i j) (gd i j)) : OpF X E op (fInt2 Cb gd) := by
  refine ⟨_, h, fun ρ S H x y dx dy Q s rx ry h => ?_⟩
  unfold fInt2 at h
  split at h
  · cases rx; cases ry
    split at h
    · exact ⟨_, _, rfl, rfl, hC _ _ (by assumption), h.here s (hg _ _ _ _)⟩
    · exact h.elim
  · exact h.elim
@[simp] def fInt20 (g : Int → Int → D) (x y : D) (S : Sto) : R D := match x, y with
  | .int i, .int j => .ok (g i j) S
  | _, _ => .bad
theorem op_int20 {op : Value → Value → Sem Value} {g : Int → Int → V} {gd : Int → Int → D} (h : OpR X op (rI0 g)) (hg : ∀ H ρ i j, Rep H ρ (g i j) (gd i j)) : OpF X E op (fInt20 gd) := by
  refine ⟨_, h, fun ρ S H x y dx dy Q s rx ry h => ?_⟩
  unfold fInt20 at h
  split at h
  · cases rx; cases ry
    exact ⟨_, _, rfl, rfl, h.here s (hg _ _ _ _)⟩
  · exact h.elim
abbrev fSub : Fn2 := fInt20 fun i j => .int (i - j)
theorem op_subF : OpF X E (binaryOp .Sub) fSub := op_int20 op_sub fun _ _ _ _ => .int _
abbrev fMul : Fn2 := fInt2 (fun i j => smallI i || smallI j) fun i j => .int (i * j)
theorem op_mulF : OpF X E (binaryOp .Mult) fMul := op_int2 op_mul (fun i j h => by
  simp only [smallI, Bool.or_eq_true, Bool.and_eq_true, decide_eq_true_eq] at h
  exact h) fun _ _ _ _ => .int _
abbrev fDiv : Fn2 := fInt2 (fun _ j => decide (j ≠ 0) && decide (j.natAbs < 1073741824)) fun i j => .int (i.fdiv j)
theorem op_divF : OpF X E (binaryOp .FloorDiv) fDiv := op_int2 op_fdivN (fun i j h => by
  simp only [Bool.and_eq_true, decide_eq_true_eq] at h
  exact h) fun _ _ _ _ => .int _
abbrev fMod : Fn2 := fInt2 (fun _ j => decide (j ≠ 0)) fun i j => .int (i.fmod j)
theorem op_modF : OpF X E (binaryOp .Mod) fMod := op_int2 op_modN (fun i j h => by simpa using h) fun _ _ _ _ => .int _
@[simp] def powOk (i j : Int) : Bool := decide (0 ≤ j) && decide (j ≤ 1000000) && decide (i.natAbs < 2 ^ 64)
theorem powOk_of {i j : Int} (h : powOk i j = true) : CPow i j := by
  simp only [powOk, Bool.and_eq_true, decide_eq_true_eq] at h
  exact ⟨h.1.1, h.1.2, h.2⟩
abbrev fPow : Fn2 := fInt2 powOk fun i j => .int (i ^ j.toNat)
theorem op_powF : OpF X E (binaryOp .Pow) fPow := op_int2 op_pow (fun _ _ h => powOk_of h) fun _ _ _ _ => .int _
abbrev fShl : Fn2 := fInt2 powOk fun i j => .int (i * 2 ^ j.toNat)
theorem op_shlF : OpF X E (binaryOp .LShift) fShl := op_int2 op_shl (fun _ _ h => powOk_of h) fun _ _ _ _ => .int _
@[simp] def fNeg (x : D) (S : Sto) : R D := match x with
  | .int i => .ok (.int (-i)) S
  | _ => .bad
theorem un_negF : UnF X E (unaryOp .USub) fNeg := by
  refine ⟨_, un_neg, fun ρ S H x dx Q s rx h => ?_⟩
  unfold fNeg at h
  split at h
  · cases rx; exact ⟨_, rfl, h.here s (.int _)⟩
  · exact h.elim
/-! ### == of data -/
mutual
def D.py : D → Option PyData
  | .non => some .none
  | .bl b => some (.bool b)
  | .int i => some (.int i)
  | .str x => some (.str x)
  | .tup ds => (D.pys ds).map .tuple
  | .ty _ => none
  | .loc _ => none
def D.pys : List D → Option (List PyData)
  | [] => some []
  | d :: ds => (D.py d).bind fun x => (D.pys ds).map (x :: ·)
end
/-- .. a list of the store at the outside, too -/
def D.pyS (S : Sto) : D → Option PyData
  | .loc n => match S[n]? with
    | some (.lst ds) => (D.pys ds).map .list
    | _ => none
  | d => d.py
mutual
theorem Rep.dp {K : PySem.W.Frag} {H ρ} : ∀ {d : D} {v : V} {x : PyData}, Rep H ρ v d → d.py = some x → Dp K H v x
  | .non, _, _, .non, e => by cases e; exact .non
  | .bl _, _, _, .bl _, e => by cases e; exact .bl _
  | .int _, _, _, .int _, e => by cases e; exact .int _
  | .str _, _, _, .str _, e => by cases e; exact .str _
  | .ty _, _, _, .ty _, e => by cases e
  | .loc _, _, _, .loc _, e => by cases e
  | .tup ds, _, _, .tup ha q, e => by
    simp only [D.py, Option.map_eq_some_iff] at e
    obtain ⟨xs, e, rfl⟩ := e
    exact .tup (.of ha) (Reps.dp q e)
theorem Reps.dp {K : PySem.W.Frag} {H ρ} : ∀ {ds : List D} {vs : List V} {xs : List PyData}, Reps H ρ vs ds → D.pys ds = some xs → DpAll K H vs xs
  | [], _, _, .nil, e => by cases e; exact .nil
  | d :: ds, _, _, .cons r t, e => by
    simp only [D.pys, Option.bind_eq_some_iff, Option.map_eq_some_iff] at e
    obtain ⟨x, e1, xs, e2, rfl⟩ := e
    exact .cons (Rep.dp r e1) (Reps.dp t e2)
end
theorem Rep.dpS {K : PySem.W.Frag} {H ρ S d v x} (s : Sim ρ S H) (r : Rep H ρ v d) (e : d.pyS S = some x) : Dp K H v x := by
  cases d with
  | loc n =>
    simp only [D.pyS] at e
    split at e
    · rename_i ds hS
      simp only [Option.map_eq_some_iff] at e
      obtain ⟨xs, e, rfl⟩ := e
      cases r with
      | loc ea =>
        obtain ⟨a, ea', ys, hy, q⟩ := s.at_ _ _ hS
        rw [ea] at ea'; cases ea'
        exact .lst (.of hy) (q.dp e)
    · cases e
  | _ => exact Rep.dp r e
/-- what == says of two data -/
def D.eqv (S : Sto) (x y : D) : Option Bool := (x.pyS S).bind fun a => (y.pyS S).bind fun b => if (SeqAt.shaped a && SeqAt.shaped b) = true then some (PyData.eqv a b) else none
@[simp] def fEqv (neg : Bool) : Fn2
  | .int i, .int j, S => .ok (.bl (neg ^^ decide (i = j))) S
  | .str i, .str j, S => .ok (.bl (neg ^^ decide (i = j))) S
  | .bl i, .bl j, S => .ok (.bl (neg ^^ decide (i = j))) S
  | x, y, S => match D.eqv S x y with
    | some b => .ok (.bl (neg ^^ b)) S
    | none => .bad
abbrev fEq : Fn2 := fEqv false
abbrev fNe : Fn2 := fEqv true
theorem eqv_some {S x y b} (h : D.eqv S x y = some b) : ∃ a c, x.pyS S = some a ∧ y.pyS S = some c ∧ SeqAt.shaped a = true ∧ SeqAt.shaped c = true ∧ b = PyData.eqv a c := by
  simp only [D.eqv, Option.bind_eq_some_iff] at h
  obtain ⟨a, ha, c, hc, h⟩ := h
  split at h
  · rename_i hs
    simp only [Bool.and_eq_true] at hs
    cases h
    exact ⟨a, c, ha, hc, hs.1, hs.2, rfl⟩
  · cases h
theorem op_eqF (hu : X.A.units + 64 < cLine) : OpF X E (compareOp .Eq) fEq := by
  refine ⟨_, OpR.or op_eq (op_eqD hu), fun ρ S H x y dx dy Q s rx ry h => ?_⟩
  unfold fEq fEqv at h
  split at h
  · cases rx; cases ry
    refine .inl ⟨rfl, ?_⟩
    have := h.here s (.bl _)
    simpa using this
  · cases rx; cases ry
    refine .inl ⟨rfl, ?_⟩
    have := h.here s (.bl _)
    simpa using this
  · cases rx; cases ry
    refine .inl ⟨rfl, ?_⟩
    have := h.here s (.bl _)
    simpa using this
  · split at h
    · rename_i b hb
      obtain ⟨a, c, h1, h2, h3, h4, rfl⟩ := eqv_some hb
      have := h.here s (.bl _)
      exact .inr ⟨a, c, rx.dpS s h1, ry.dpS s h2, h3, h4, by simpa using this⟩
    · exact h.elim
theorem op_neF (hu : X.A.units + 64 < cLine) : OpF X E (compareOp .NotEq) fNe := by
  refine ⟨_, OpR.or op_ne (op_neD hu), fun ρ S H x y dx dy Q s rx ry h => ?_⟩
  unfold fNe fEqv at h
  split at h
  · cases rx; cases ry
    refine .inl ⟨rfl, ?_⟩
    have := h.here s (.bl _)
    simpa using this
  · cases rx; cases ry
    refine .inl ⟨rfl, ?_⟩
    have := h.here s (.bl _)
    simpa using this
  · cases rx; cases ry
    refine .inl ⟨rfl, ?_⟩
    have := h.here s (.bl _)
    simpa using this
  · split at h
    · rename_i b hb
      obtain ⟨a, c, h1, h2, h3, h4, rfl⟩ := eqv_some hb
      have := h.here s (.bl _)
      exact .inr ⟨a, c, rx.dpS s h1, ry.dpS s h2, h3, h4, by simpa using this⟩
    · exact h.elim
abbrev fLt : Fn2 := fInt20 fun i j => .bl (decide (i < j))
abbrev fLe : Fn2 := fInt20 fun i j => .bl (decide (i ≤ j))
abbrev fGt : Fn2 := fInt20 fun i j => .bl (decide (j < i))
abbrev fGe : Fn2 := fInt20 fun i j => .bl (decide (j ≤ i))
theorem op_ltF : OpF X E (compareOp .Lt) fLt := op_int20 op_lt fun _ _ _ _ => .bl _
theorem op_leF : OpF X E (compareOp .LtE) fLe := op_int20 op_le fun _ _ _ _ => .bl _
theorem op_gtF : OpF X E (compareOp .Gt) fGt := op_int20 op_gt fun _ _ _ _ => .bl _
theorem op_geF : OpF X E (compareOp .GtE) fGe := op_int20 op_ge fun _ _ _ _ => .bl _
@[simp] def D.isNon : D → Bool
  | .non => true
  | _ => false
@[simp] def fIs (neg : Bool) (x y : D) (S : Sto) : R D := if y.isNon = true then .ok (.bl (neg ^^ x.isNon)) S else .bad
theorem isNon_rep {H ρ v d} (r : Rep H ρ v d) : d.isNon = decide (v = .non) := by cases r <;> rfl
theorem op_isF : OpF X E (compareOp .Is) (fIs false) := by
  refine ⟨_, op_isN, fun ρ S H x y dx dy Q s rx ry h => ?_⟩
  unfold fIs at h
  split at h
  · rename_i hn
    rw [isNon_rep ry, decide_eq_true_eq] at hn
    have := h.here s (.bl _)
    rw [isNon_rep rx] at this
    exact ⟨hn, by simpa using this⟩
  · exact h.elim
theorem op_isNotF : OpF X E (compareOp .IsNot) (fIs true) := by
  refine ⟨_, op_notN, fun ρ S H x y dx dy Q s rx ry h => ?_⟩
  unfold fIs at h
  split at h
  · rename_i hn
    rw [isNon_rep ry, decide_eq_true_eq] at hn
    have := h.here s (.bl _)
    rw [isNon_rep rx] at this
    exact ⟨hn, by simpa using this⟩
  · exact h.elim
/-! ### subscripts -/
@[simp] def fIx : Fn2
  | .loc n, .int i, S => match S[n]? with
    | some (.lst ds) => match atI ds i with
      | some d => .ok d S
      | none => .bad
    | _ => .bad
  | .tup ds, .int i, S => match atI ds i with
      | some d => .ok d S
      | none => .bad
  | _, _, _ => .bad
theorem atI_rep {H ρ vs ds i d} (q : Reps H ρ vs ds) (h : atI ds i = some d) : ∃ v, atI vs i = some v ∧ Rep H ρ v d := by
  simp only [atI, Option.bind_eq_some_iff] at h
  obtain ⟨j, h1, h2⟩ := h
  obtain ⟨v, h3, r⟩ := q.get h2
  exact ⟨v, by simp only [atI, q.length, h1]; exact h3, r⟩
theorem ix_F : IxF X E fIx := by
  refine ⟨_, IxR.or ix_list ix_tup, fun ρ S H x y dx dy Q s rx ry h => ?_⟩
  unfold fIx at h
  split at h
  · split at h
    · rename_i hS
      split at h
      · rename_i hd
        cases rx with
        | loc ea =>
          cases ry
          obtain ⟨a, ea', xs, hx, q⟩ := s.at_ _ _ hS
          rw [ea] at ea'; cases ea'
          obtain ⟨v, hv, r⟩ := atI_rep q hd
          exact .inl ⟨_, xs, _, v, rfl, rfl, .of hx, hv, h.here s r⟩
      · exact h.elim
    · exact h.elim
  · split at h
    · rename_i hd
      cases rx with
      | tup hx q =>
        cases ry
        obtain ⟨v, hv, r⟩ := atI_rep q hd
        exact .inr ⟨_, _, _, v, rfl, rfl, .of hx, hv, h.here s r⟩
    · exact h.elim
  · exact h.elim
theorem get_list : PGet X (rIxL X.K) := by
  intro pins s σ H o i ov iv Q I ro ri h
  obtain ⟨p, xs, k, z, rfl, rfl, hq, he, q⟩ := h
  cases ro
  obtain ⟨t, rfl⟩ := ri
  obtain ⟨its, r, pl, hz⟩ := I.list hq
  obtain ⟨j, h1, h2, h3, h4, h5⟩ := atI_get he
  obtain ⟨w, ew, rw'⟩ := r.get h2
  have hl := r.length
  have hn := line63
  have fin : EP X pins σ Q w s := ⟨z, H, I, rw', q⟩
  by_cases h0 : 0 ≤ k
  · have hj : k.toNat = j := by
      rw [seqIndex_of h0 h5] at h1
      exact Option.some.inj h1
    exact wpAny_getItem_list pl.isList h0 (by omega) (by rw [hj]; simpa using ew) fin
  · have hj : (k + (its.toArray.size : Int)).toNat = j := by
      rw [seqIndex_neg (by omega) h4] at h1
      rw [List.size_toArray, ← hl]
      exact Option.some.inj h1
    exact wpAny_getItem_list_neg pl.isList (by omega) (by rw [List.size_toArray] <;> omega) (by omega) (by rw [hj]; simpa using ew) fin
@[simp] def fGetL : Fn2
  | .loc n, .int i, S => match S[n]? with
    | some (.lst ds) => match atI ds i with
      | some d => .ok d S
      | none => .bad
    | _ => .bad
  | _, _, _ => .bad
theorem get_listF : GetF X E fGetL := by
  refine ⟨_, get_list, fun ρ S H x y dx dy Q s rx ry h => ?_⟩
  unfold fGetL at h
  split at h
  · split at h
    · rename_i hS
      split at h
      · rename_i hd
        cases rx with
        | loc ea =>
          cases ry
          obtain ⟨a, ea', xs, hx, q⟩ := s.at_ _ _ hS
          rw [ea] at ea'; cases ea'
          obtain ⟨v, hv, r⟩ := atI_rep q hd
          exact ⟨_, xs, _, v, rfl, rfl, .of hx, hv, h.here s r⟩
      · exact h.elim
    · exact h.elim
  · exact h.elim
@[simp] def fSetL (o i v : D) (S : Sto) : Option Sto := match o, i with
  | .loc n, .int k => match S[n]? with
    | some (.lst ds) => match ixN ds.length k with
      | some j => some (S.set n (.lst (ds.set j v)))
      | none => none
    | _ => none
  | _, _ => none
theorem Reps.set {H ρ v d} (r : Rep H ρ v d) : ∀ {vs ds} (i : Nat), Reps H ρ vs ds → Reps H ρ (vs.set i v) (ds.set i d)
  | _, _, _, .nil => .nil
  | _, _, 0, .cons _ t => .cons r t
  | _, _, i + 1, .cons q t => .cons q (Reps.set r i t)
theorem set_listF : SetF X fSetL := by
  refine ⟨_, set_list, fun ρ S H o i v do_ di dv S' Q s ro ri rv h k => ?_⟩
  unfold fSetL at h
  split at h
  · split at h
    · rename_i hS
      split at h
      · rename_i hj
        cases h
        cases ro with
        | loc ea =>
          cases ri
          obtain ⟨a, ea', xs, hx, q⟩ := s.at_ _ _ hS
          rw [ea] at ea'; cases ea'
          have tt : ∀ b ys (u : HO), H b = some (.tup ys) → (upd H _ u) b = some (.tup ys) := fun b ys u hb => by rw [upd_ne (ne_of hb hx (fun z => nomatch z))]; exact hb
          obtain ⟨e1, s1⟩ := s.set (o := .lst (_ : List D)) ea hx ⟨_, upd_same, (q.set rv _).mono (List.prefix_refl _) fun b ys hb => tt b ys _ hb⟩
          exact ⟨_, xs, _, _, rfl, rfl, hx, by rw [q.length]; exact hj, k _ e1 s1⟩
      · cases h
    · cases h
  · cases h
/-! ### op= -/
@[simp] def fIpAdd : Fn2
  | .int i, .int j, S => .ok (.int (i + j)) S
  | _, _, _ => .bad
theorem ip_addF : IpF X E .Add fIpAdd := by
  refine ⟨_, ip_add, fun ρ S H x y dx dy Q s rx ry h => ?_⟩
  unfold fIpAdd at h
  split at h
  · cases rx; cases ry
    exact ⟨_, _, rfl, rfl, h.here s (.int _)⟩
  · exact h.elim
@[simp] def fIpSub : Fn2
  | .int i, .int j, S => .ok (.int (i - j)) S
  | _, _, _ => .bad
theorem ip_subF : IpF X E .Sub fIpSub := by
  refine ⟨_, ip_sub, fun ρ S H x y dx dy Q s rx ry h => ?_⟩
  unfold fIpSub at h
  split at h
  · cases rx; cases ry
    exact ⟨_, _, rfl, rfl, h.here s (.int _)⟩
  · exact h.elim
/-! ### built-ins -/
theorem reps1 {H ρ} : ∀ {vs d}, Reps H ρ vs [d] → ∃ v, vs = [v] ∧ Rep H ρ v d
  | _, _, .cons r .nil => ⟨_, rfl, r⟩
theorem reps2 {H ρ} : ∀ {vs d e}, Reps H ρ vs [d, e] → ∃ v w, vs = [v, w] ∧ Rep H ρ v d ∧ Rep H ρ w e
  | _, _, _, .cons r (.cons q .nil) => ⟨_, _, rfl, r, q⟩
@[simp] def fAbs : FnL
  | [.int i], S => .ok (.int (if i < 0 then -i else i)) S
  | _, _ => .bad
theorem call_absF : CallF X E (.builtin "abs") fAbs := by
  refine ⟨_, call_abs, fun ρ S H xs ds Q s q h => ?_⟩
  unfold fAbs at h
  split at h
  · obtain ⟨v, rfl, r⟩ := reps1 q
    cases r
    exact ⟨_, rfl, h.here s (.int _)⟩
  · exact h.elim
@[simp] def fInt : FnL
  | [.int i], S => .ok (.int i) S
  | [.bl k], S => .ok (.int (if k then 1 else 0)) S
  | _, _ => .bad
theorem call_intF : CallF X E (.type "int") fInt := by
  refine ⟨_, call_int1, fun ρ S H xs ds Q s q h => ?_⟩
  unfold fInt at h
  split at h
  · obtain ⟨v, rfl, r⟩ := reps1 q
    cases r
    exact .inl ⟨_, rfl, h.here s (.int _)⟩
  · obtain ⟨v, rfl, r⟩ := reps1 q
    cases r
    exact .inr ⟨_, rfl, h.here s (.int _)⟩
  · exact h.elim
@[simp] def fMax2 : FnL
  | [.int i, .int j], S => .ok (.int (if j > i then j else i)) S
  | _, _ => .bad
theorem call_max2F (hc : X.calm = true) : CallF X E (.builtin "max") fMax2 := by
  refine ⟨_, call_max2 hc, fun ρ S H xs ds Q s q h => ?_⟩
  unfold fMax2 at h
  split at h
  · obtain ⟨v, w, rfl, r, r'⟩ := reps2 q
    cases r; cases r'
    exact ⟨_, _, rfl, h.here s (.int _)⟩
  · exact h.elim
@[simp] def fMin2 : FnL
  | [.int i, .int j], S => .ok (.int (if j < i then j else i)) S
  | _, _ => .bad
theorem call_min2F (hc : X.calm = true) : CallF X E (.builtin "min") fMin2 := by
  refine ⟨_, call_min2 hc, fun ρ S H xs ds Q s q h => ?_⟩
  unfold fMin2 at h
  split at h
  · obtain ⟨v, w, rfl, r, r'⟩ := reps2 q
    cases r; cases r'
    exact ⟨_, _, rfl, h.here s (.int _)⟩
  · exact h.elim
@[simp] noncomputable def fLen : FnL
  | [.loc n], S => match S[n]? with
    | some (.lst ds) => .ok (.int ds.length) S
    | _ => .bad
  | [.tup ds], S => .ok (.int ds.length) S
  | [.str x], S => if x.length ≤ sizeLine then .ok (.int x.length) S else .bad
  | _, _ => .bad
theorem call_lenF : CallF X E (.builtin "len") fLen := by
  refine ⟨_, call_len, fun ρ S H xs ds Q s q h => ?_⟩
  unfold fLen at h
  split at h
  · split at h
    · rename_i hS
      obtain ⟨v, rfl, r⟩ := reps1 q
      cases r with
      | loc ea =>
        obtain ⟨a, ea', xs, hx, q⟩ := s.at_ _ _ hS
        rw [ea] at ea'; cases ea'
        exact ⟨_, xs.length, rfl, .inl ⟨xs, .of hx, rfl⟩, h.here s (by rw [q.length]; exact .int _)⟩
    · exact h.elim
  · obtain ⟨v, rfl, r⟩ := reps1 q
    cases r with
    | tup hx q => exact ⟨_, _, rfl, .inr ⟨_, .of hx, rfl⟩, h.here s (by rw [q.length]; exact .int _)⟩
  · obtain ⟨v, rfl, r⟩ := reps1 q
    cases r
    split at h
    · exact ⟨_, _, rfl, ⟨by assumption, rfl⟩, h.here s (.int _)⟩
    · exact h.elim
  · exact h.elim
/-- the name of a datum's type -/
@[simp] def tyN (S : Sto) : D → Option String
  | .non => some "NoneType"
  | .bl _ => some "bool"
  | .int _ => some "int"
  | .str _ => some "str"
  | .tup _ => some "tuple"
  | .ty _ => none
  | .loc n => match S[n]? with
    | some (.lst _) => some "list"
    | some (.dK _) => some "dict"
    | some (.dT _) => some "dict"
    | _ => none
theorem tyN_of {K : PySem.W.Frag} {ρ S H v d t} (s : Sim ρ S H) (r : Rep H ρ v d) (h : tyN S d = some t) : TyX K H v (.type t) := by
  refine .base ?_
  cases r with
  | non => cases h; exact .non
  | bl _ => cases h; exact .bl _
  | int _ => cases h; exact .int _
  | str _ => cases h; exact .str _
  | ty _ => cases h
  | tup e _ => cases h; exact .tup e
  | loc ea =>
    simp only [tyN] at h
    split at h
    · rename_i hS
      obtain ⟨a, ea', xs, hx, q⟩ := s.at_ _ _ hS
      rw [ea] at ea'; cases ea'; cases h
      exact .lst hx
    · rename_i hS
      obtain ⟨a, ea', xs, hx, q⟩ := s.at_ _ _ hS
      rw [ea] at ea'; cases ea'; cases h
      exact .dK hx
    · rename_i hS
      obtain ⟨a, ea', xs, hx, q⟩ := s.at_ _ _ hS
      rw [ea] at ea'; cases ea'; cases h
      exact .dT hx
    · cases h
@[simp] def fIsi : FnL
  | [x, .ty n], S => match tyN S x with
    | some t => match kitB t n with
      | some b => .ok (.bl b) S
      | none => .bad
    | none => .bad
  | _, _ => .bad
theorem call_isiF : CallF X E (.builtin "isinstance") fIsi := by
  refine ⟨_, call_isi, fun ρ S H xs ds Q s q h => ?_⟩
  unfold fIsi at h
  split at h
  · split at h
    · rename_i ht
      split at h
      · rename_i hb
        obtain ⟨v, w, rfl, r, r'⟩ := reps2 q
        cases r'
        exact ⟨v, _, _, _, _, rfl, .ty _, tyN_of s r ht, kit_ty hb, h.here s (.bl _)⟩
      · exact h.elim
    · exact h.elim
  · exact h.elim
end
end FL
set_option Elab.async false
set_option linter.all false
set_option maxRecDepth 100000
set_option maxHeartbeats 4000000
/-! FL7: defs by name. -/
namespace FL
open PySem PySem.Spec PyProof.Rows L2
structure DefOk (P : Program) (w : World) (K : PySem.W.Frag) (mg : Str → Option Value) (base : Heap) (k : Nat) (x : Str) (ps : List Str) (f : FnL) : Prop where
  ex : ∃ fa fd, FnOk P w K mg base CX0 k fa fd ps (spF f) ∧ mg x = some (.ref fa) ∧ PySem.W.keepIn K (.ref fa) = true ∧ Binds K fd ps []
section
variable {X : Cx} {E : XK} {pos p : Pos} {k j : Nat} {x : Str} {ps : List Str} {f : FnL} {e : Expr} {es : List Expr} {t : Ma}
theorem fe_callD (F : DefOk X.prog X.w X.K X.mg X.base k x ps f) (hr : Room j X.A) (hg : Gl X x) (ha : FA X E (e :: es) t) (hkj : k ≤ j := by decide)
    (hdb : (x == ("__debug__" : Str)) = false := by decide) (he : starEach (e :: es) X.env = (false, eval e X.env) :: starEach es X.env := by rfl) (hpl : (backTo pos (starEach es X.env)).any (·.1) = false := by rfl) :
    FE X E (.Call (.Name x p) (e :: es) [] pos) (mL f t) := by
  obtain ⟨fa, fd, F, hm, hk, hb⟩ := F.ex
  exact fe_call F (hr.mono hkj) hg hm hk hb pass0' ha hdb he hpl
theorem fe_callD0 (F : DefOk X.prog X.w X.K X.mg X.base k x ps f) (hr : Room j X.A) (hg : Gl X x) (hkj : k ≤ j := by decide)
    (hdb : (x == ("__debug__" : Str)) = false := by decide) : FE X E (.Call (.Name x p) [] [] pos) (mL f aNil) := by
  obtain ⟨fa, fd, F, hm, hk, hb⟩ := F.ex
  exact fe_call0 F (hr.mono hkj) hg hm hk hb pass0' hdb
theorem fv (i : Nat) (hN : X.N[i]? = some x := by rfl) (hv : Vis X.env.scope x := by first | exact Or.inl rfl | exact Or.inr (Or.inl rfl) | exact Or.inr (Or.inr rfl)) (hd : (x == ("__debug__" : Str)) = false := by decide)
    (hcd : (x == ("__classdict__" : Str)) = false := by decide) : FE X E (.Name x pos) (mVar i) := fe_var hN hv hd hcd
end
section
variable {P : Program} {w : World} {K : PySem.W.Frag} {mg : Str → Option Value} {base : Heap} {x qual : Str} {params : Arguments} {body : List Stmt} {scope : Scope} {fa : Addr} {fd : FuncData}
theorem okFD {N ps : List Str} {k : Nat} {m : Ms} (F : FunD K x qual params body scope [] [] fa fd) (S : FnScope N ps scope) (hN : ps.length ≤ N.length)
    (hbody : ∀ (cdv : Value) (A : Around) (outer : List Env) (s : Shared) (H : Hp) (E : XK), Room k (A.deeper (envOfC qual scope s.heap.objs.size fa cdv)) →
      FSs (cxOf CX0 P w K mg base N qual scope fa cdv A outer s H E).nox E body m) : FnOk P w K mg base CX0 (k + 1) fa fd ps (spF (runB ps.length N.length m)) := by
  refine F.ok S (fun vs H Q E ⟨ρ, S, ds, s, q, h⟩ => ?_) fun cdv A outer s H vs Q E hr ⟨ρ, S, ds, s', q, h⟩ => ⟨_, PSs.nox (hbody cdv A outer s H E hr), runB_body s' q hN h⟩
  rw [q.length]
  exact runB_len h
theorem okDef {N ps : List Str} {k : Nat} {m : Ms} (F : FunD K x qual params body scope [] [] fa fd) (g : mg x = some (.ref fa)) (S : FnScope N ps scope)
    (hb : ∀ (kV doc pm : Value) (an : Option Addr) (cdv ct : Value) (us : List Value), us.length = ps.length → bindArgs (PySem.W.fnOf x qual params body scope .none kV doc pm an cdv ct) ⟨us, []⟩ = pure (ps.zip us))
    (hbody : ∀ (cdv : Value) (A : Around) (outer : List Env) (s : Shared) (H : Hp) (E : XK), Room k (A.deeper (envOfC qual scope s.heap.objs.size fa cdv)) →
      FSs (cxOf CX0 P w K mg base N qual scope fa cdv A outer s H E).nox E body m) (hN : ps.length ≤ N.length := by decide) : DefOk P w K mg base (k + 1) x ps (runB ps.length N.length m) :=
  ⟨fa, fd, okFD F S hN hbody, g, F.kp, F.bindsN hb⟩
end
/-! ### the law's first row: d = _law_begin(script) -/
section
variable {P : Program} {w : World} {K : PySem.W.Frag} {mg : Str → Option Value} {base : Heap}
/-- what _law_begin promises: the script's ints in a new list, in a new list with two noughts and an eleven -/
def spBegin (K : PySem.W.Frag) : Sp := fun vs H Q _ => ∃ (a : Addr) (ns : List Int), vs = [.ref a] ∧ SqL K H a (ns.map V.int) ∧ ns.length ≤ 63 ∧
  ∀ H' p q, Same H H' → H p = none → H q = none → p ≠ q → H' p = some (.lst (ns.map V.int)) → H' q = some (.lst [.ref p, .int 0, .int 0, .int 11]) → Q (.ref q) H'
def begSto (ns : List Int) : Sto := [.lst (ns.map D.int), .lst [.loc 0, .int 0, .int 0, .int 11]]
theorem Reps.ints {H ρ} : ∀ ns : List Int, Reps H ρ (ns.map V.int) (ns.map D.int)
  | [] => .nil
  | _ :: r => .cons (.int _) (Reps.ints r)
theorem beg_sim {H' : Hp} {p q : Addr} {ns : List Int} (hpq : p ≠ q) (hp : H' p = some (.lst (ns.map V.int))) (hq : H' q = some (.lst [.ref p, .int 0, .int 0, .int 11])) : Sim [p, q] (begSto ns) H' := by
  refine ⟨rfl, by simp [hpq], fun n o h => ?_⟩
  match n, h with
  | 0, h =>
    cases h
    exact ⟨p, rfl, _, hp, .ints ns⟩
  | 1, h =>
    cases h
    exact ⟨q, rfl, _, hq, .cons (.loc rfl) (.cons (.int _) (.cons (.int _) (.cons (.int _) .nil)))⟩
  | n + 2, h => simp [begSto] at h
end
/-- the reading of _law_begin's body -/
abbrev tBeg (K : PySem.W.Frag) : TS := tRet (tLst (tCons (tLc (iList K (tVar 0)) (gName 1) tYes (tCB (fun xs H Q => (∃ i, xs = [.int i] ∧ Q (.int i) H) ∨ ∃ k, xs = [.bl k] ∧ Q (.int (if k then 1 else 0)) H) (tCons (tVar 1) tNil)) [1])
  (tCons (tC (.int 0)) (tCons (tC (.int 0)) (tCons (tC (.int 11)) tNil)))))
theorem beg_reads {K : PySem.W.Frag} {vs : List V} {H : Hp} {Q : VK} {E : XK} (h : spBegin K vs H Q E) : tBeg K { nx := fun _ H' => Q .non H', rt := Q } (L2.start ["script", "cell"] vs) H := by
  obtain ⟨a, ns, rfl, hS, hl, q⟩ := h
  refine ⟨.ref a, rfl, a, rfl, ⟨_, hS⟩, fun D hD => ?_⟩
  have sm : ∀ xs, Same H (upd H D (.lst xs)) := fun xs b o e => by rw [upd_ne (ne_of_none e hD)]; exact e
  refine lc_list (xs := ns.map V.int) (fun i H' => H' = upd H D (.lst ((ns.map V.int).take i))) rfl (fun i H' _ e => by subst e; exact (sm _).seq hS) (fun i x H' hx e => ?_) fun H' e => ?_
  · subst e
    rw [List.getElem?_map] at hx
    cases hn : ns[i]? with
    | none => rw [hn] at hx; cases hx
    | some k =>
      rw [hn] at hx
      cases hx
      refine ⟨rfl, ?_⟩
      dsimp only [tYes]
      rw [if_pos rfl]
      refine ⟨.int k, rfl, .inl ⟨k, rfl, _, upd_same, ?_, ?_⟩⟩
      · rw [List.length_take, List.length_map]
        have : 63 < sizeLine := by decide
        omega
      · rw [upd_upd, List.take_add_one, List.getElem?_map, hn]
        rfl
  · subst e
    refine ⟨(by show 4 ≤ sizeLine; decide), fun p hp => ?_⟩
    have et : (ns.map V.int).take (ns.map V.int).length = ns.map V.int := List.take_length
    rw [et] at hp ⊢
    have hpD : D ≠ p := fun z => by rw [← z, upd_same] at hp; cases hp
    have hpH : H p = none := by rw [upd_ne (Ne.symm hpD)] at hp; exact hp
    refine q _ D p (fun b o e => ?_) hD hpH hpD (by rw [upd_ne hpD, upd_same]) upd_same
    rw [upd_ne (ne_of_none e hpH)]
    exact sm _ b o e
/-- what the law promises -/
def spLaw (K : PySem.W.Frag) : Sp := fun vs H Q _ => ∃ (a : Addr) (ns : List Int), vs = [.ref a] ∧ SqL K H a (ns.map V.int) ∧ ns.length ≤ 63 ∧ ∀ H', Q (.bl true) H'
theorem law_reads {K : PySem.W.Frag} {N : List Str} {m : Ms} {vs : List V} {H : Hp} {Q : VK} {E E' : XK} {n : Nat} (hN : N.length = n + 2)
    (M : ∀ ns : List Int, ns.length ≤ 63 → ∃ S', m (none :: some (.loc 1) :: List.replicate n none) (begSto ns) = .ret (.bl true) S') (h : spLaw K vs H Q E) :
    tSeq (tAsg (tCall (spBegin K) [] E' (tCons (tVar 0) tNil)) (gName 1)) (tFS E m) { nx := fun _ H' => Q .non H', rt := Q } (L2.start N vs) H := by
  obtain ⟨a, ns, rfl, hS, hl, q⟩ := h
  have es : L2.start N [.ref a] = some (.ref a) :: none :: List.replicate n none := by
    unfold L2.start
    rw [hN]
    rfl
  rw [es]
  refine ⟨.ref a, rfl, a, ns, rfl, hS, hl, fun H' p r sm hp hr hpr e1 e2 => ?_⟩
  obtain ⟨S', em⟩ := M ns hl
  refine ⟨[p, r], begSto ns, none :: some (.loc 1) :: List.replicate n none, beg_sim hpr e1 e2, ⟨by simp, fun i d h => ?_⟩, ?_⟩
  · match i, h with
    | 0, h => cases h
    | 1, h => cases h; exact ⟨.ref r, rfl, .loc rfl⟩
    | i + 2, h =>
      have h : (List.replicate n (none : Option D))[i]? = some (some d) := by simpa using h
      rw [List.getElem?_replicate] at h
      split at h <;> cases h
  · rw [em]
    intro v ρ' H'' _ _ r
    cases r
    exact q H''
end FL
set_option Elab.async false
set_option linter.all false
set_option maxRecDepth 100000
set_option maxHeartbeats 4000000
/-! FL8: how functional readings are reckoned. -/
namespace FL
open PySem PySem.Spec PyProof.Rows L2
theorem trim_keep {S S' : Sto} {d : D} (hl : S'.length = S.length) (hd : d.und S.length = true) (hk : ∀ i < S.length, S'[i]? = S[i]? ∨ ∃ o, S'[i]? = some o ∧ o.und S.length = true) : trim S d S' = .ok d S' := by
  unfold trim
  rw [if_pos ⟨Nat.le_of_eq hl.symm, hk⟩, if_pos hd, ← hl, List.take_length]
/-- nothing of the store has changed, what was made is dropped -/
theorem trim_pre {S J : Sto} {d : D} (hd : d.und S.length = true) : trim S d (S ++ J) = .ok d S := by
  unfold trim
  rw [if_pos ⟨by rw [List.length_append]; omega, fun i hi => .inl (List.getElem?_append_left hi)⟩, if_pos hd, List.take_left']
  rfl
theorem trim_self {S : Sto} {d : D} (hd : d.und S.length = true) : trim S d S = .ok d S := by
  have := trim_pre (S := S) (J := []) hd
  rwa [List.append_nil] at this
/-- .. a new object is handed back -/
theorem trim_new {S J : Sto} {n : Nat} {o : O} (hn : ¬ n < S.length) (ho : (S ++ J)[n]? = some o) (hu : o.und S.length = true) : trim S (.loc n) (S ++ J) = .ok (.loc S.length) (S ++ [o]) := by
  unfold trim
  rw [if_pos ⟨by rw [List.length_append]; omega, fun i hi => .inl (List.getElem?_append_left hi)⟩, if_neg (by simpa [D.und] using hn)]
  simp only
  rw [ho]
  simp only
  rw [if_pos hu, List.take_left' rfl]
@[simp] theorem und_non (k) : D.und k .non = true := by simp only [D.und]
@[simp] theorem und_int (k i) : D.und k (.int i) = true := by simp only [D.und]
@[simp] theorem und_bl (k i) : D.und k (.bl i) = true := by simp only [D.und]
@[simp] theorem und_str (k i) : D.und k (.str i) = true := by simp only [D.und]
@[simp] theorem und_tup (k ds) : D.und k (.tup ds) = D.unds k ds := by simp only [D.und]
@[simp] theorem und_loc (k n) : D.und k (.loc n) = decide (n < k) := by simp only [D.und]
@[simp] theorem unds_nil (k) : D.unds k [] = true := by simp only [D.unds]
@[simp] theorem unds_cons (k d ds) : D.unds k (d :: ds) = (d.und k && D.unds k ds) := by simp only [D.unds]
theorem unds_all (k ds) : D.unds k ds = ds.all fun d => d.und k := by
  induction ds with
  | nil => rfl
  | cons d r ih => rw [unds_cons, List.all_cons, ih]
@[simp] theorem unds_ints (k) (ns : List Int) : D.unds k (ns.map D.int) = true := by rw [unds_all, List.all_eq_true]; intro d hd; obtain ⟨i, _, rfl⟩ := List.mem_map.mp hd; rfl
theorem forL_nil (src g b σ S) : forL src g b [] σ S = chk S src (.nx σ S) .bad := rfl
theorem forL_cons (src g b d ds σ S) : forL src g b (d :: ds) σ S = chk S src (match (g d σ S).fl b with
    | .nx σ2 S2 => forL src g b ds σ2 S2
    | .cont σ2 S2 => forL src g b ds σ2 S2
    | .brk σ2 S2 => .nx σ2 S2
    | r => r) .bad := by
  show chk S src ((g d σ S).fl _) .bad = _
  congr 1
  cases g d σ S <;> rfl
/-- a loop over a range, by what holds ahead of each turn -/
theorem for_rg {lo : Int} {n : Nat} {g : Mg} {b : Ms} (P : Nat → Sd → Sto → Prop) {σ S} (h0 : P 0 σ S)
    (hs : ∀ i σ S, i < n → P i σ S → ∃ σ' S', ((g (.int (lo + (i : Int))) σ S).fl b = .nx σ' S' ∨ (g (.int (lo + (i : Int))) σ S).fl b = .cont σ' S') ∧ P (i + 1) σ' S') :
    ∃ σ' S', forL (.its (rgD lo n)) g b (rgD lo n) σ S = .nx σ' S' ∧ P n σ' S' := by
  have key : ∀ (m i : Nat) σ S, i + m = n → P i σ S → ∃ σ' S', forL (.its (rgD lo n)) g b ((rgD lo n).drop i) σ S = .nx σ' S' ∧ P n σ' S' := by
    intro m
    induction m with
    | zero =>
      intro i σ S hi p
      rw [List.drop_of_length_le (by simp [rgD]; omega)]
      exact ⟨σ, S, rfl, by rw [← hi]; exact p⟩
    | succ m ih =>
      intro i σ S hi p
      have hl : i < (rgD lo n).length := by simp [rgD]; omega
      have he : (rgD lo n)[i] = .int (lo + (i : Int)) := by simp [rgD]
      rw [List.drop_eq_getElem_cons hl, forL_cons, chk_its, he]
      obtain ⟨σ', S', e, p'⟩ := hs i σ S (by omega) p
      rcases e with e | e <;> (rw [e]; exact ih (i + 1) σ' S' (by omega) p')
  have := key n 0 σ S (by omega) h0
  simpa using this
/-! ### the law's draws -/
def dst (ns : List Int) (p r s : Int) : Sto := [.lst (ns.map D.int), .lst [.loc 0, .int p, .int r, .int s]]
theorem beg_dst (ns : List Int) : begSto ns = dst ns 0 0 11 := rfl
theorem chk_ok {α : Type} {S : Sto} {src : Src} {r b : α} (h : okSrc S src) : chk S src r b = r := by
  cases src with
  | its ds => rfl
  | lst n ds => exact chk_lst h
/-- a loop, by what holds ahead of each turn -/
theorem for_src {src : Src} {g : Mg} {b : Ms} (P : Nat → Sd → Sto → Prop) {σ S} (h0 : P 0 σ S) (hok : ∀ i σ S, P i σ S → okSrc S src)
    (hs : ∀ i d σ S, src.items[i]? = some d → P i σ S → ∃ σ' S', ((g d σ S).fl b = .nx σ' S' ∨ (g d σ S).fl b = .cont σ' S') ∧ P (i + 1) σ' S') :
    ∃ σ' S', forL src g b src.items σ S = .nx σ' S' ∧ P src.items.length σ' S' := by
  have key : ∀ (m i : Nat) σ S, i + m = src.items.length → P i σ S → ∃ σ' S', forL src g b (src.items.drop i) σ S = .nx σ' S' ∧ P src.items.length σ' S' := by
    intro m
    induction m with
    | zero =>
      intro i σ S hi p
      rw [List.drop_of_length_le (by omega), forL_nil, chk_ok (hok i σ S p)]
      exact ⟨σ, S, rfl, by rw [← hi]; exact p⟩
    | succ m ih =>
      intro i σ S hi p
      have hl : i < src.items.length := by omega
      rw [List.drop_eq_getElem_cons hl, forL_cons, chk_ok (hok i σ S p)]
      obtain ⟨σ', S', e, p'⟩ := hs i _ σ S (List.getElem?_eq_getElem hl) p
      rcases e with e | e <;> (rw [e]; exact ih (i + 1) σ' S' (by omega) p')
  have := key _ 0 σ S (Nat.zero_add _) h0
  simpa using this
/-- .. over a range, by an integer -/
theorem for_rgZ {lo : Int} {n : Nat} {g : Mg} {b : Ms} (P : Int → Sd → Sto → Prop) {σ S} (h0 : P 0 σ S)
    (hs : ∀ (k : Int) σ S, 0 ≤ k → k < n → P k σ S → ∃ σ' S', ((g (.int (lo + k)) σ S).fl b = .nx σ' S' ∨ (g (.int (lo + k)) σ S).fl b = .cont σ' S') ∧ P (k + 1) σ' S') :
    ∃ σ' S', forL (.its (rgD lo n)) g b (rgD lo n) σ S = .nx σ' S' ∧ P n σ' S' :=
  for_rg (P := fun i => P (i : Int)) h0 fun i σ S hi p => hs i σ S (by omega) (by omega) p
/-- .. that ends by a return at turn k -/
theorem for_ret {src : Src} {g : Mg} {b : Ms} (P : Nat → Sd → Sto → Prop) {σ S} (k : Nat) (Q : D → Sto → Prop) (hk : k < src.items.length) (h0 : P 0 σ S) (hok : ∀ i σ S, P i σ S → okSrc S src)
    (hs : ∀ i d σ S, i < k → src.items[i]? = some d → P i σ S → ∃ σ' S', ((g d σ S).fl b = .nx σ' S' ∨ (g d σ S).fl b = .cont σ' S') ∧ P (i + 1) σ' S')
    (hr : ∀ d σ S, src.items[k]? = some d → P k σ S → ∃ v S', (g d σ S).fl b = .ret v S' ∧ Q v S') :
    ∃ v S', forL src g b src.items σ S = .ret v S' ∧ Q v S' := by
  have key : ∀ (m i : Nat) σ S, i + m = k → P i σ S → ∃ v S', forL src g b (src.items.drop i) σ S = .ret v S' ∧ Q v S' := by
    intro m
    induction m with
    | zero =>
      intro i σ S hi p
      obtain rfl : i = k := by omega
      rw [List.drop_eq_getElem_cons hk, forL_cons, chk_ok (hok i σ S p)]
      obtain ⟨v, S', e, q⟩ := hr _ σ S (List.getElem?_eq_getElem hk) p
      rw [e]
      exact ⟨v, S', rfl, q⟩
    | succ m ih =>
      intro i σ S hi p
      have hl : i < src.items.length := by omega
      rw [List.drop_eq_getElem_cons hl, forL_cons, chk_ok (hok i σ S p)]
      obtain ⟨σ', S', e, p'⟩ := hs i _ σ S (by omega) (List.getElem?_eq_getElem hl) p
      rcases e with e | e <;> (rw [e]; exact ih (i + 1) σ' S' (by omega) p')
  have := key k 0 σ S (Nat.zero_add _) h0
  simpa using this
/-- a comprehension whose parts change nothing -/
theorem compL_pure {src : Src} {g : Mg} {t : Mt} {e : Me} {vs : List Nat} {σ : Sd} {S : Sto} (p : D → Bool) (F : D → D) (hok : okSrc S src) : ∀ (ds acc : List D),
    (∀ d ∈ ds, ∃ σ1, g d (wipeD σ vs) S = .ok σ1 S ∧ t σ1 S = .ok (p d) S ∧ (p d = true → e σ1 S = .ok (F d) S)) → acc.length + ds.length ≤ sizeLine →
    compL src g t e vs σ ds acc S = .ok (.loc S.length) (S ++ [.lst (acc ++ (ds.filter p).map F)])
  | [], acc, _, _ => by
    unfold compL
    rw [chk_ok hok]
    simp
  | d :: ds, acc, h, hz => by
    obtain ⟨σ1, h1, h2, h3⟩ := h d (by simp)
    have hz' : acc.length + (ds.length + 1) ≤ sizeLine := hz
    unfold compL
    rw [chk_ok hok, h1]
    simp only [R.bind_ok]
    rw [h2]
    simp only [R.bind_ok]
    cases hp : p d with
    | false =>
      simp only [List.filter_cons, hp]
      exact compL_pure p F hok ds acc (fun x hx => h x (by simp [hx])) (by omega)
    | true =>
      simp only []
      rw [h3 hp]
      simp only [R.bind_ok]
      rw [if_pos (by omega), compL_pure p F hok ds (acc ++ [F d]) (fun x hx => h x (by simp [hx])) (by simp; omega)]
      simp [List.filter_cons, hp]
theorem compL_map {src : Src} {g : Mg} {e : Me} {vs : List Nat} {σ : Sd} {S : Sto} (F : D → D) (hok : okSrc S src) (ds : List D)
    (h : ∀ d ∈ ds, ∃ σ1, g d (wipeD σ vs) S = .ok σ1 S ∧ e σ1 S = .ok (F d) S) (hz : ds.length ≤ sizeLine) :
    compL src g mYes e vs σ ds [] S = .ok (.loc S.length) (S ++ [.lst (ds.map F)]) := by
  have := compL_pure (p := fun _ => true) F hok ds [] (t := mYes) (g := g) (e := e) (vs := vs) (σ := σ) (fun d hd => by
    obtain ⟨σ1, h1, h2⟩ := h d hd
    exact ⟨σ1, h1, rfl, fun _ => h2⟩) (by simpa using hz)
  have e : ds.filter (fun _ => true) = ds := List.filter_eq_self.mpr fun _ _ => rfl
  rw [e] at this
  simpa using this
theorem okSrc_its {S : Sto} {ds : List D} : okSrc S (.its ds) := trivial
/-- [x for x in ..] -/
theorem compL_id {ds : List D} {i : Nat} {σ : Sd} {S : Sto} (hi : i < σ.length) (hz : ds.length ≤ sizeLine) : compL (.its ds) (gN i) mYes (mVar i) [i] σ ds [] S = .ok (.loc S.length) (S ++ [.lst ds]) := by
  have := compL_map (src := .its ds) (g := gN i) (e := mVar i) (vs := [i]) (σ := σ) (S := S) id okSrc_its ds (fun d hd => ⟨_, rfl, by simp [wipeD, hi]⟩) hz
  rw [this, List.map_id]
@[simp] theorem rgD_len (lo n) : (rgD lo n).length = n := by simp [rgD]
/-! ### the draws' part of a store -/
@[simp] theorem dst_len (ns p r s) : (dst ns p r s).length = 2 := rfl
@[simp high] theorem dst_get {ns p r s J n} : (dst ns p r s ++ J)[2 + n]? = J[n]? := by
  rw [List.getElem?_append_right (by simp)]
  congr 1
  simp
theorem dst_get2 {ns p r s J n} : (dst ns p r s ++ J)[n + 2]? = J[n]? := by rw [Nat.add_comm]; exact dst_get
theorem trim_dst {ns p r s p' r' s' J d} (hd : d.und (2 + J.length) = true) : trim (dst ns p r s ++ J) d (dst ns p' r' s' ++ J) = .ok d (dst ns p' r' s' ++ J) := by
  refine trim_keep (by simp) (by simpa using hd) fun i hi => ?_
  match i with
  | 0 => exact .inl rfl
  | 1 => exact .inr ⟨_, rfl, by simp [O.und]; omega⟩
  | i + 2 => exact .inl rfl
/-- .. what was made behind it is dropped -/
theorem trim_dst2 {ns p r s p' r' s' J J' d} (hd : d.und (2 + J.length) = true) : trim (dst ns p r s ++ J) d (dst ns p' r' s' ++ (J ++ J')) = .ok d (dst ns p' r' s' ++ J) := by
  unfold trim
  rw [if_pos ?k, if_pos (by simpa using hd)]
  · rw [← List.append_assoc, List.take_left' (by simp)]
  · refine ⟨by simp, fun i hi => ?_⟩
    match i with
    | 0 => exact .inl rfl
    | 1 => exact .inr ⟨_, rfl, by simp [O.und]; omega⟩
    | i + 2 =>
      refine .inl ?_
      rw [dst_get2, dst_get2, List.getElem?_append_left (by simp at hi; omega)]
theorem kit_ii : kitB "int" "int" = some true := by decide +kernel
theorem kit_ib : kitB "int" "bool" = some false := by decide +kernel
end FL
set_option Elab.async false
set_option linter.all false
set_option maxRecDepth 100000
set_option maxHeartbeats 4000000
/-! the defs of the linked text: functional readings and derivations (printed by gen.py) -/
namespace G
open PySem PySem.Spec PyProof.Rows L2 FL
def topS (i : Nat) : Stmt := PySem.Challenge.pw_judgedplay_k78_bounds.main.body.getD i (.Pass ⟨0, 0, 0, 0⟩)
abbrev FnP (K : PySem.W.Frag) (x : Str) (st : Stmt) (f : Addr) (fd : FuncData) : Prop := FunD K x x (defArgs st) (defBody st) (defScope st) [] [] f fd
structure Bi (mg : Str → Option Value) : Prop where
  b_abs : mg "abs" = none
  b_bool : mg "bool" = none
  b_int : mg "int" = none
  b_isinstance : mg "isinstance" = none
  b_len : mg "len" = none
  b_max : mg "max" = none
  b_range : mg "range" = none
abbrev slateness : Stmt := topS 1
abbrev Nlateness : List Str := ["d", "l"]
theorem sclateness : FnScope ["d", "l"] ["d", "l"] (defScope slateness) := ⟨rfl, rfl, rfl, by decide +kernel, rfl, by decide +kernel, by decide +kernel⟩
noncomputable def mlateness : Ms :=
  (mRet (mOp fAdd (mVar 0) (mVar 1)))
noncomputable def flateness : FnL := runB 2 2 mlateness
theorem oklateness {P : Program} {w : World} {K : PySem.W.Frag} {mg : Str → Option Value} {base : Heap} {fa : Addr} {fd : FuncData} (B : Bi mg) (F : FnP K "lateness" slateness fa fd) (g : mg "lateness" = some (.ref fa)) :
    DefOk P w K mg base 1 "lateness" ["d", "l"] flateness :=
  okDef (N := ["d", "l"]) F g sclateness (fun _ _ _ _ _ _ us hl => match us, hl with | [_, _], _ => rfl) fun cdv A outer s H E hr =>
    (fss_one (fs_ret (fe_op op_addF (fv 0) (fv 1))))

abbrev swait : Stmt := topS 2
abbrev Nwait : List Str := ["d", "l"]
theorem scwait : FnScope ["d", "l"] ["d", "l"] (defScope swait) := ⟨rfl, rfl, rfl, by decide +kernel, rfl, by decide +kernel, by decide +kernel⟩
noncomputable def mwait : Ms :=
  (mRet (mOp fAdd (mOp fMul (mC (.int 3)) (mOp fAdd (mVar 0) (mVar 1))) (mC (.int 2))))
noncomputable def fwait : FnL := runB 2 2 mwait
theorem okwait {P : Program} {w : World} {K : PySem.W.Frag} {mg : Str → Option Value} {base : Heap} {fa : Addr} {fd : FuncData} (B : Bi mg) (F : FnP K "wait" swait fa fd) (g : mg "wait" = some (.ref fa)) :
    DefOk P w K mg base 1 "wait" ["d", "l"] fwait :=
  okDef (N := ["d", "l"]) F g scwait (fun _ _ _ _ _ _ us hl => match us, hl with | [_, _], _ => rfl) fun cdv A outer s H E hr =>
    (fss_one (fs_ret (fe_op op_addF (fe_op op_mulF fe_int (fe_op op_addF (fv 0) (fv 1))) fe_int)))

abbrev shold : Stmt := topS 3
abbrev Nhold : List Str := ["d", "l"]
theorem schold : FnScope ["d", "l"] ["d", "l"] (defScope shold) := ⟨rfl, rfl, rfl, by decide +kernel, rfl, by decide +kernel, by decide +kernel⟩
noncomputable def mhold : Ms :=
  (mRet (mOp fAdd (mL fwait (aCons (mVar 0) (aCons (mVar 1) aNil))) (mC (.int 1))))
noncomputable def fhold : FnL := runB 2 2 mhold
theorem okhold {P : Program} {w : World} {K : PySem.W.Frag} {mg : Str → Option Value} {base : Heap} {fa : Addr} {fd : FuncData} (B : Bi mg) (F : FnP K "hold" shold fa fd) (g : mg "hold" = some (.ref fa)) (Dwait : DefOk P w K mg base 1 "wait" ["d", "l"] fwait) :
    DefOk P w K mg base 2 "hold" ["d", "l"] fhold :=
  okDef (N := ["d", "l"]) F g schold (fun _ _ _ _ _ _ us hl => match us, hl with | [_, _], _ => rfl) fun cdv A outer s H E hr =>
    (fss_one (fs_ret (fe_op op_addF (fe_callD Dwait hr (by rfl) (fa_cons (fv 0) (fa_cons (fv 1) fa_nil))) fe_int)))

abbrev sframes_of : Stmt := topS 4
abbrev Nframes_of : List Str := ["ticks", "d", "l"]
theorem scframes_of : FnScope ["ticks", "d", "l"] ["ticks", "d", "l"] (defScope sframes_of) := ⟨rfl, rfl, rfl, by decide +kernel, rfl, by decide +kernel, by decide +kernel⟩
noncomputable def mframes_of : Ms :=
  (mRet (mOp fAdd (mOp fAdd (mVar 0) (mL fwait (aCons (mVar 1) (aCons (mVar 2) aNil)))) (mC (.int 1))))
noncomputable def fframes_of : FnL := runB 3 3 mframes_of
theorem okframes_of {P : Program} {w : World} {K : PySem.W.Frag} {mg : Str → Option Value} {base : Heap} {fa : Addr} {fd : FuncData} (B : Bi mg) (F : FnP K "frames_of" sframes_of fa fd) (g : mg "frames_of" = some (.ref fa)) (Dwait : DefOk P w K mg base 1 "wait" ["d", "l"] fwait) :
    DefOk P w K mg base 2 "frames_of" ["ticks", "d", "l"] fframes_of :=
  okDef (N := ["ticks", "d", "l"]) F g scframes_of (fun _ _ _ _ _ _ us hl => match us, hl with | [_, _, _], _ => rfl) fun cdv A outer s H E hr =>
    (fss_one (fs_ret (fe_op op_addF (fe_op op_addF (fv 0) (fe_callD Dwait hr (by rfl) (fa_cons (fv 1) (fa_cons (fv 2) fa_nil)))) fe_int)))

abbrev smost_again : Stmt := topS 5
abbrev Nmost_again : List Str := ["d", "l", "lag", "falls"]
theorem scmost_again : FnScope ["d", "l", "lag", "falls"] ["d", "l", "lag", "falls"] (defScope smost_again) := ⟨rfl, rfl, rfl, by decide +kernel, rfl, by decide +kernel, by decide +kernel⟩
noncomputable def mmost_again : Ms :=
  (mSeq (mIfS (mTest (mOp fEq (mVar 3) (mC (.int 0)))) (mRet (mL fMax2 (aCons (mC (.int 0)) (aCons (mOp fSub (mOp fAdd (mVar 0) (mVar 1)) (mVar 2)) aNil)))) mNext)
  (mRet (mL fMax2 (aCons (mC (.int 0)) (aCons (mOp fSub (mL fwait (aCons (mVar 0) (aCons (mVar 1) aNil))) (mVar 2)) aNil)))))
noncomputable def fmost_again : FnL := runB 4 4 mmost_again
theorem okmost_again {P : Program} {w : World} {K : PySem.W.Frag} {mg : Str → Option Value} {base : Heap} {fa : Addr} {fd : FuncData} (B : Bi mg) (F : FnP K "most_again" smost_again fa fd) (g : mg "most_again" = some (.ref fa)) (Dwait : DefOk P w K mg base 1 "wait" ["d", "l"] fwait) :
    DefOk P w K mg base 2 "most_again" ["d", "l", "lag", "falls"] fmost_again :=
  okDef (N := ["d", "l", "lag", "falls"]) F g scmost_again (fun _ _ _ _ _ _ us hl => match us, hl with | [_, _, _, _], _ => rfl) fun cdv A outer s H E hr =>
    (fss_cons (fs_if (ft_cmp (op_eqF hr.units) (fv 3) fe_int (nomark _)) (fss_one (fs_ret (fe_callB (call_max2F rfl) (by rfl) B.b_max (by decide +kernel) (fa_cons fe_int (fa_cons (fe_op op_subF (fe_op op_addF (fv 0) (fv 1)) (fv 2)) fa_nil))))) fss_nil)
    (fss_one (fs_ret (fe_callB (call_max2F rfl) (by rfl) B.b_max (by decide +kernel) (fa_cons fe_int (fa_cons (fe_op op_subF (fe_callD Dwait hr (by rfl) (fa_cons (fv 0) (fa_cons (fv 1) fa_nil))) (fv 2)) fa_nil))))))

abbrev sleast_lag : Stmt := topS 6
abbrev Nleast_lag : List Str := ["d", "l", "most"]
theorem scleast_lag : FnScope ["d", "l", "most"] ["d", "l", "most"] (defScope sleast_lag) := ⟨rfl, rfl, rfl, by decide +kernel, rfl, by decide +kernel, by decide +kernel⟩
noncomputable def mleast_lag : Ms :=
  (mRet (mL fMax2 (aCons (mC (.int 0)) (aCons (mOp fSub (mOp fAdd (mVar 0) (mVar 1)) (mVar 2)) aNil))))
noncomputable def fleast_lag : FnL := runB 3 3 mleast_lag
theorem okleast_lag {P : Program} {w : World} {K : PySem.W.Frag} {mg : Str → Option Value} {base : Heap} {fa : Addr} {fd : FuncData} (B : Bi mg) (F : FnP K "least_lag" sleast_lag fa fd) (g : mg "least_lag" = some (.ref fa)) :
    DefOk P w K mg base 1 "least_lag" ["d", "l", "most"] fleast_lag :=
  okDef (N := ["d", "l", "most"]) F g scleast_lag (fun _ _ _ _ _ _ us hl => match us, hl with | [_, _, _], _ => rfl) fun cdv A outer s H E hr =>
    (fss_one (fs_ret (fe_callB (call_max2F rfl) (by rfl) B.b_max (by decide +kernel) (fa_cons fe_int (fa_cons (fe_op op_subF (fe_op op_addF (fv 0) (fv 1)) (fv 2)) fa_nil)))))

abbrev smost_words : Stmt := topS 7
abbrev Nmost_words : List Str := ["seats", "d", "l", "lag"]
theorem scmost_words : FnScope ["seats", "d", "l", "lag"] ["seats", "d", "l", "lag"] (defScope smost_words) := ⟨rfl, rfl, rfl, by decide +kernel, rfl, by decide +kernel, by decide +kernel⟩
noncomputable def mmost_words : Ms :=
  (mRet (mOp fMul (mVar 0) (mOp fAdd (mOp fAdd (mL fwait (aCons (mVar 1) (aCons (mVar 2) aNil))) (mVar 3)) (mC (.int 1)))))
noncomputable def fmost_words : FnL := runB 4 4 mmost_words
theorem okmost_words {P : Program} {w : World} {K : PySem.W.Frag} {mg : Str → Option Value} {base : Heap} {fa : Addr} {fd : FuncData} (B : Bi mg) (F : FnP K "most_words" smost_words fa fd) (g : mg "most_words" = some (.ref fa)) (Dwait : DefOk P w K mg base 1 "wait" ["d", "l"] fwait) :
    DefOk P w K mg base 2 "most_words" ["seats", "d", "l", "lag"] fmost_words :=
  okDef (N := ["seats", "d", "l", "lag"]) F g scmost_words (fun _ _ _ _ _ _ us hl => match us, hl with | [_, _, _, _], _ => rfl) fun cdv A outer s H E hr =>
    (fss_one (fs_ret (fe_op op_mulF (fv 0) (fe_op op_addF (fe_op op_addF (fe_callD Dwait hr (by rfl) (fa_cons (fv 1) (fa_cons (fv 2) fa_nil))) (fv 3)) fe_int))))

abbrev smost_marks : Stmt := topS 8
abbrev Nmost_marks : List Str := ["d", "l"]
theorem scmost_marks : FnScope ["d", "l"] ["d", "l"] (defScope smost_marks) := ⟨rfl, rfl, rfl, by decide +kernel, rfl, by decide +kernel, by decide +kernel⟩
noncomputable def mmost_marks : Ms :=
  (mRet (mOp fAdd (mOp fMul (mC (.int 2)) (mL fwait (aCons (mVar 0) (aCons (mVar 1) aNil)))) (mC (.int 1))))
noncomputable def fmost_marks : FnL := runB 2 2 mmost_marks
theorem okmost_marks {P : Program} {w : World} {K : PySem.W.Frag} {mg : Str → Option Value} {base : Heap} {fa : Addr} {fd : FuncData} (B : Bi mg) (F : FnP K "most_marks" smost_marks fa fd) (g : mg "most_marks" = some (.ref fa)) (Dwait : DefOk P w K mg base 1 "wait" ["d", "l"] fwait) :
    DefOk P w K mg base 2 "most_marks" ["d", "l"] fmost_marks :=
  okDef (N := ["d", "l"]) F g scmost_marks (fun _ _ _ _ _ _ us hl => match us, hl with | [_, _], _ => rfl) fun cdv A outer s H E hr =>
    (fss_one (fs_ret (fe_op op_addF (fe_op op_mulF fe_int (fe_callD Dwait hr (by rfl) (fa_cons (fv 0) (fa_cons (fv 1) fa_nil)))) fe_int)))

abbrev s_law_draw : Stmt := topS 11
abbrev N_law_draw : List Str := ["d", "many", "found", "size", "cell"]
theorem sc_law_draw : FnScope ["d", "many", "found", "size", "cell"] ["d", "many"] (defScope s_law_draw) := ⟨rfl, rfl, rfl, by decide +kernel, rfl, by decide +kernel, by decide +kernel⟩
noncomputable def m_law_draw : Ms :=
  (mSeq (mIfS (mTest (mOp fGt (mOp fIx (mVar 0) (mC (.int 2))) (mC (.int 0)))) (mSeq (mSet 2 (mOp fIx (mVar 0) (mC (.int 2))))
  (mSeq (mAsg (mOp fDiv (mVar 2) (mVar 1)) (gSb fSetL (mVar 0) (mC (.int 2))))
  (mRet (mOp fMod (mL fInt (aCons (mVar 2) aNil)) (mVar 1))))) mNext)
  (mSeq (mSet 3 (mC (.int 0)))
  (mSeq (mIfS (mTest (mOp fLt (mOp fIx (mVar 0) (mC (.int 1))) (mL fLen (aCons (mOp fIx (mVar 0) (mC (.int 0))) aNil)))) (mSeq (mSet 4 (mOp fIx (mOp fIx (mVar 0) (mC (.int 0))) (mOp fIx (mVar 0) (mC (.int 1)))))
  (mSet 3 (mOp fAdd (mOp fMul (mC (.int 2)) (mL fAbs (aCons (mVar 4) aNil))) (mL fInt (aCons (mOp fLt (mVar 4) (mC (.int 0))) aNil))))) mNext)
  (mSeq (mAugS fGetL fIpAdd fSetL (mVar 0) (mC (.int 1)) (mC (.int 1)))
  (mSeq (mIfS (mTest (mOp fGe (mVar 3) (mOp fMul (mC (.int 2)) (mOp fPow (mC (.int 10)) (mC (.int 18)))))) (mSeq (mSet 2 (mOp fMod (mL fInt (aCons (mOp fDiv (mVar 3) (mC (.int 2))) aNil)) (mOp fShl (mC (.int 1)) (mC (.int 6000)))))
  (mSeq (mAsg (mOp fDiv (mVar 2) (mVar 1)) (gSb fSetL (mVar 0) (mC (.int 2))))
  (mRet (mOp fMod (mL fInt (aCons (mVar 2) aNil)) (mVar 1))))) mNext)
  (mSeq (mAsg (mOp fMod (mL fInt (aCons (mOp fAdd (mOp fAdd (mOp fAdd (mOp fMul (mOp fIx (mVar 0) (mC (.int 3))) (mC (.int 48271))) (mOp fMul (mOp fMod (mL fInt (aCons (mVar 3) aNil)) (mC (.int 2147483629))) (mC (.int 16807)))) (mOp fMul (mOp fIx (mVar 0) (mC (.int 1))) (mC (.int 69621)))) (mC (.int 13))) aNil)) (mC (.int 2147483647))) (gSb fSetL (mVar 0) (mC (.int 3))))
  (mRet (mOp fMod (mL fInt (aCons (mOp fDiv (mOp fIx (mVar 0) (mC (.int 3))) (mC (.int 16))) aNil)) (mVar 1)))))))))
noncomputable def f_law_draw : FnL := runB 2 5 m_law_draw
theorem ok_law_draw {P : Program} {w : World} {K : PySem.W.Frag} {mg : Str → Option Value} {base : Heap} {fa : Addr} {fd : FuncData} (B : Bi mg) (F : FnP K "_law_draw" s_law_draw fa fd) (g : mg "_law_draw" = some (.ref fa)) :
    DefOk P w K mg base 1 "_law_draw" ["d", "many"] f_law_draw :=
  okDef (N := ["d", "many", "found", "size", "cell"]) F g sc_law_draw (fun _ _ _ _ _ _ us hl => match us, hl with | [_, _], _ => rfl) fun cdv A outer s H E hr =>
    (fss_cons (fs_if (ft_cmp op_gtF (fe_ix ix_F (fv 0) fe_int (fun _ _ => rfl)) fe_int (nomark _)) (fss_cons (fs_set (i := 2) sc_law_draw.nd rfl (.inl rfl) (fe_ix ix_F (fv 0) fe_int (fun _ _ => rfl)))
    (fss_cons (fs_asg (fe_op op_divF (fv 2) (fv 1)) (fg_sub (fv 0) fe_int set_listF))
    (fss_one (fs_ret (fe_op op_modF (fe_callTy call_intF (by rfl) B.b_int (by decide +kernel) (fa_cons (fv 2) fa_nil)) (fv 1)))))) fss_nil)
    (fss_cons (fs_set (i := 3) sc_law_draw.nd rfl (.inl rfl) fe_int)
    (fss_cons (fs_if (ft_cmp op_ltF (fe_ix ix_F (fv 0) fe_int (fun _ _ => rfl)) (fe_callB call_lenF (by rfl) B.b_len (by decide +kernel) (fa_cons (fe_ix ix_F (fv 0) fe_int (fun _ _ => rfl)) fa_nil)) (nomark _)) (fss_cons (fs_set (i := 4) sc_law_draw.nd rfl (.inl rfl) (fe_ix ix_F (fe_ix ix_F (fv 0) fe_int (fun _ _ => rfl)) (fe_ix ix_F (fv 0) fe_int (fun _ _ => rfl)) (fun _ _ => rfl)))
    (fss_one (fs_set (i := 3) sc_law_draw.nd rfl (.inl rfl) (fe_op op_addF (fe_op op_mulF fe_int (fe_callB call_absF (by rfl) B.b_abs (by decide +kernel) (fa_cons (fv 4) fa_nil))) (fe_callTy call_intF (by rfl) B.b_int (by decide +kernel) (fa_cons (fe_cmp op_ltF (fv 4) fe_int (nomark _)) fa_nil)))))) fss_nil)
    (fss_cons (fs_augS (fv 0) fe_int get_listF fe_int ip_addF set_listF)
    (fss_cons (fs_if (ft_cmp op_geF (fv 3) (fe_op op_mulF fe_int (fe_op op_powF fe_int fe_int)) (nomark _)) (fss_cons (fs_set (i := 2) sc_law_draw.nd rfl (.inl rfl) (fe_op op_modF (fe_callTy call_intF (by rfl) B.b_int (by decide +kernel) (fa_cons (fe_op op_divF (fv 3) fe_int) fa_nil)) (fe_op op_shlF fe_int fe_int)))
    (fss_cons (fs_asg (fe_op op_divF (fv 2) (fv 1)) (fg_sub (fv 0) fe_int set_listF))
    (fss_one (fs_ret (fe_op op_modF (fe_callTy call_intF (by rfl) B.b_int (by decide +kernel) (fa_cons (fv 2) fa_nil)) (fv 1)))))) fss_nil)
    (fss_cons (fs_asg (fe_op op_modF (fe_callTy call_intF (by rfl) B.b_int (by decide +kernel) (fa_cons (fe_op op_addF (fe_op op_addF (fe_op op_addF (fe_op op_mulF (fe_ix ix_F (fv 0) fe_int (fun _ _ => rfl)) fe_int) (fe_op op_mulF (fe_op op_modF (fe_callTy call_intF (by rfl) B.b_int (by decide +kernel) (fa_cons (fv 3) fa_nil)) fe_int) fe_int)) (fe_op op_mulF (fe_ix ix_F (fv 0) fe_int (fun _ _ => rfl)) fe_int)) fe_int) fa_nil)) fe_int) (fg_sub (fv 0) fe_int set_listF))
    (fss_one (fs_ret (fe_op op_modF (fe_callTy call_intF (by rfl) B.b_int (by decide +kernel) (fa_cons (fe_op op_divF (fe_ix ix_F (fv 0) fe_int (fun _ _ => rfl)) fe_int) fa_nil)) (fv 1))))))))))

abbrev s_law_pick : Stmt := topS 12
abbrev N_law_pick : List Str := ["d", "row"]
theorem sc_law_pick : FnScope ["d", "row"] ["d", "row"] (defScope s_law_pick) := ⟨rfl, rfl, rfl, by decide +kernel, rfl, by decide +kernel, by decide +kernel⟩
noncomputable def m_law_pick : Ms :=
  (mRet (mOp fIx (mVar 1) (mL f_law_draw (aCons (mVar 0) (aCons (mL fLen (aCons (mVar 1) aNil)) aNil)))))
noncomputable def f_law_pick : FnL := runB 2 2 m_law_pick
theorem ok_law_pick {P : Program} {w : World} {K : PySem.W.Frag} {mg : Str → Option Value} {base : Heap} {fa : Addr} {fd : FuncData} (B : Bi mg) (F : FnP K "_law_pick" s_law_pick fa fd) (g : mg "_law_pick" = some (.ref fa)) (D_law_draw : DefOk P w K mg base 1 "_law_draw" ["d", "many"] f_law_draw) :
    DefOk P w K mg base 2 "_law_pick" ["d", "row"] f_law_pick :=
  okDef (N := ["d", "row"]) F g sc_law_pick (fun _ _ _ _ _ _ us hl => match us, hl with | [_, _], _ => rfl) fun cdv A outer s H E hr =>
    (fss_one (fs_ret (fe_ix ix_F (fv 1) (fe_callD D_law_draw hr (by rfl) (fa_cons (fv 0) (fa_cons (fe_callB call_lenF (by rfl) B.b_len (by decide +kernel) (fa_cons (fv 1) fa_nil)) fa_nil))) (fun _ _ => rfl))))

abbrev s_law_is_int : Stmt := topS 13
abbrev N_law_is_int : List Str := ["thing"]
theorem sc_law_is_int : FnScope ["thing"] ["thing"] (defScope s_law_is_int) := ⟨rfl, rfl, rfl, by decide +kernel, rfl, by decide +kernel, by decide +kernel⟩
noncomputable def m_law_is_int : Ms :=
  (mRet (mAndV (mL fIsi (aCons (mVar 0) (aCons (mC (.ty "int")) aNil))) (mNotV (mL fIsi (aCons (mVar 0) (aCons (mC (.ty "bool")) aNil))))))
noncomputable def f_law_is_int : FnL := runB 1 1 m_law_is_int
theorem ok_law_is_int {P : Program} {w : World} {K : PySem.W.Frag} {mg : Str → Option Value} {base : Heap} {fa : Addr} {fd : FuncData} (B : Bi mg) (F : FnP K "_law_is_int" s_law_is_int fa fd) (g : mg "_law_is_int" = some (.ref fa)) :
    DefOk P w K mg base 1 "_law_is_int" ["thing"] f_law_is_int :=
  okDef (N := ["thing"]) F g sc_law_is_int (fun _ _ _ _ _ _ us hl => match us, hl with | [_], _ => rfl) fun cdv A outer s H E hr =>
    (fss_one (fs_ret (fe_and (fe_callB call_isiF (by rfl) B.b_isinstance (by decide +kernel) (fa_cons (fv 0) (fa_cons (fe_ty (by rfl) B.b_int (by decide +kernel)) fa_nil))) (fe_one (fe_not (fe_callB call_isiF (by rfl) B.b_isinstance (by decide +kernel) (fa_cons (fv 0) (fa_cons (fe_ty (by rfl) B.b_bool (by decide +kernel)) fa_nil))))))))

abbrev s_law_latest : Stmt := topS 14
abbrev N_law_latest : List Str := ["late", "lost", "found", "number", "delay"]
theorem sc_law_latest : FnScope ["late", "lost", "found", "number", "delay"] ["late", "lost"] (defScope s_law_latest) := ⟨rfl, rfl, rfl, by decide +kernel, rfl, by decide +kernel, by decide +kernel⟩
noncomputable def m_law_latest_b1 : Ms :=
  (mSet 2 (mL fMax2 (aCons (mVar 2) (aCons (mOp fAdd (mVar 3) (mVar 4)) aNil))))
noncomputable def m_law_latest_b2 : Ms :=
  (mFor (iRg fRg1 (aCons (mOp fAdd (mVar 0) (mC (.int 1))) aNil)) (gN 4)
    m_law_latest_b1)
noncomputable def m_law_latest : Ms :=
  (mSeq (mSet 2 (mC (.int 0)))
  (mSeq (mFor (iRg fRg1 (aCons (mOp fAdd (mVar 1) (mC (.int 1))) aNil)) (gN 3)
    m_law_latest_b2)
  (mRet (mVar 2))))
noncomputable def f_law_latest : FnL := runB 2 5 m_law_latest
theorem ok_law_latest {P : Program} {w : World} {K : PySem.W.Frag} {mg : Str → Option Value} {base : Heap} {fa : Addr} {fd : FuncData} (B : Bi mg) (F : FnP K "_law_latest" s_law_latest fa fd) (g : mg "_law_latest" = some (.ref fa)) :
    DefOk P w K mg base 1 "_law_latest" ["late", "lost"] f_law_latest :=
  okDef (N := ["late", "lost", "found", "number", "delay"]) F g sc_law_latest (fun _ _ _ _ _ _ us hl => match us, hl with | [_, _], _ => rfl) fun cdv A outer s H E hr =>
    (fss_cons (fs_set (i := 2) sc_law_latest.nd rfl (.inl rfl) fe_int)
    (fss_cons (fs_for PassesOwn.never rfl (fi_range1 (by rfl) B.b_range (fa_cons (fe_op op_addF (fv 1) fe_int) fa_nil)) (fg_name (i := 3) sc_law_latest.nd rfl (.inl rfl)) (fss_one (fs_for PassesOwn.never rfl (fi_range1 (by rfl) B.b_range (fa_cons (fe_op op_addF (fv 0) fe_int) fa_nil)) (fg_name (i := 4) sc_law_latest.nd rfl (.inl rfl)) (fss_one (fs_set (i := 2) sc_law_latest.nd rfl (.inl rfl) (fe_callB (call_max2F rfl) (by rfl) B.b_max (by decide +kernel) (fa_cons (fv 2) (fa_cons (fe_op op_addF (fv 3) (fv 4)) fa_nil))))))))
    (fss_one (fs_ret (fv 2)))))

abbrev s_law_span : Stmt := topS 15
abbrev N_law_span : List Str := ["low", "high", "tick"]
theorem sc_law_span : FnScope ["low", "high", "tick"] ["low", "high"] (defScope s_law_span) := ⟨rfl, rfl, rfl, by decide +kernel, rfl, by decide +kernel, by decide +kernel⟩
noncomputable def m_law_span : Ms :=
  (mRet (mL fLen (aCons (mComp (iRg fRg2 (aCons (mVar 0) (aCons (mVar 1) aNil))) (gN 2) mYes (mVar 2) [2]) aNil)))
noncomputable def f_law_span : FnL := runB 2 3 m_law_span
theorem ok_law_span {P : Program} {w : World} {K : PySem.W.Frag} {mg : Str → Option Value} {base : Heap} {fa : Addr} {fd : FuncData} (B : Bi mg) (F : FnP K "_law_span" s_law_span fa fd) (g : mg "_law_span" = some (.ref fa)) :
    DefOk P w K mg base 1 "_law_span" ["low", "high"] f_law_span :=
  okDef (N := ["low", "high", "tick"]) F g sc_law_span (fun _ _ _ _ _ _ us hl => match us, hl with | [_, _], _ => rfl) fun cdv A outer s H E hr =>
    (fss_one (fs_ret (fe_callB call_lenF (by rfl) B.b_len (by decide +kernel) (fa_cons (fe_lc (own := [("tick", 2)]) (g := (gN 2)) (t := mYes) rfl sc_law_span.nd (fi_range2 (by rfl) B.b_range (fa_cons (fv 0) (fa_cons (fv 1) fa_nil))) (blkOk_by (N := N_law_span) (sc := defScope s_law_span) (by decide +kernel)) (fun _ _ _ _ _ => (fg_name (i := 2) sc_law_span.nd rfl (.inl rfl))) (fun _ _ _ _ _ => fts_nil) (fun _ _ _ _ _ => (fv 2))) fa_nil))))

abbrev s_law_is_just : Stmt := topS 16
abbrev N_law_is_just : List Str := ["told", "due"]
theorem sc_law_is_just : FnScope ["told", "due"] ["told", "due"] (defScope s_law_is_just) := ⟨rfl, rfl, rfl, by decide +kernel, rfl, by decide +kernel, by decide +kernel⟩
noncomputable def m_law_is_just : Ms :=
  (mRet (mAndV (mL f_law_is_int (aCons (mVar 0) aNil)) (mOp fEq (mVar 0) (mVar 1))))
noncomputable def f_law_is_just : FnL := runB 2 2 m_law_is_just
theorem ok_law_is_just {P : Program} {w : World} {K : PySem.W.Frag} {mg : Str → Option Value} {base : Heap} {fa : Addr} {fd : FuncData} (B : Bi mg) (F : FnP K "_law_is_just" s_law_is_just fa fd) (g : mg "_law_is_just" = some (.ref fa)) (D_law_is_int : DefOk P w K mg base 1 "_law_is_int" ["thing"] f_law_is_int) :
    DefOk P w K mg base 2 "_law_is_just" ["told", "due"] f_law_is_just :=
  okDef (N := ["told", "due"]) F g sc_law_is_just (fun _ _ _ _ _ _ us hl => match us, hl with | [_, _], _ => rfl) fun cdv A outer s H E hr =>
    (fss_one (fs_ret (fe_and (fe_callD D_law_is_int hr (by rfl) (fa_cons (fv 0) fa_nil)) (fe_one (fe_cmp (op_eqF hr.units) (fv 0) (fv 1) (nomark _))))))

abbrev s_law_least_by_trying : Stmt := topS 17
abbrev N_law_least_by_trying : List Str := ["reach", "most", "lag"]
theorem sc_law_least_by_trying : FnScope ["reach", "most", "lag"] ["reach", "most"] (defScope s_law_least_by_trying) := ⟨rfl, rfl, rfl, by decide +kernel, rfl, by decide +kernel, by decide +kernel⟩
noncomputable def m_law_least_by_trying_b1 : Ms :=
  (mIfS (mTest (mOp fLe (mL f_law_span (aCons (mOp fSub (mVar 2) (mVar 0)) (aCons (mC (.int 0)) aNil))) (mVar 1))) (mRet (mVar 2)) mNext)
noncomputable def m_law_least_by_trying : Ms :=
  (mSeq (mFor (iRg fRg1 (aCons (mOp fAdd (mVar 0) (mC (.int 1))) aNil)) (gN 2)
    m_law_least_by_trying_b1)
  (mRet (mVar 0)))
noncomputable def f_law_least_by_trying : FnL := runB 2 3 m_law_least_by_trying
theorem ok_law_least_by_trying {P : Program} {w : World} {K : PySem.W.Frag} {mg : Str → Option Value} {base : Heap} {fa : Addr} {fd : FuncData} (B : Bi mg) (F : FnP K "_law_least_by_trying" s_law_least_by_trying fa fd) (g : mg "_law_least_by_trying" = some (.ref fa)) (D_law_span : DefOk P w K mg base 1 "_law_span" ["low", "high"] f_law_span) :
    DefOk P w K mg base 2 "_law_least_by_trying" ["reach", "most"] f_law_least_by_trying :=
  okDef (N := ["reach", "most", "lag"]) F g sc_law_least_by_trying (fun _ _ _ _ _ _ us hl => match us, hl with | [_, _], _ => rfl) fun cdv A outer s H E hr =>
    (fss_cons (fs_for PassesOwn.never rfl (fi_range1 (by rfl) B.b_range (fa_cons (fe_op op_addF (fv 0) fe_int) fa_nil)) (fg_name (i := 2) sc_law_least_by_trying.nd rfl (.inl rfl)) (fss_one (fs_if (ft_cmp op_leF (fe_callD D_law_span hr (by rfl) (fa_cons (fe_op op_subF (fv 2) (fv 0)) (fa_cons fe_int fa_nil))) (fv 1) (nomark _)) (fss_one (fs_ret (fv 2))) fss_nil)))
    (fss_one (fs_ret (fv 0))))

abbrev s_law_constants_hold : Stmt := topS 18
abbrev N_law_constants_hold : List Str := ["late", "lost", "ticks", "reach", "waiting"]
theorem sc_law_constants_hold : FnScope ["late", "lost", "ticks", "reach", "waiting"] ["late", "lost", "ticks"] (defScope s_law_constants_hold) := ⟨rfl, rfl, rfl, by decide +kernel, rfl, by decide +kernel, by decide +kernel⟩
noncomputable def m_law_constants_hold : Ms :=
  (mSeq (mSet 3 (mL f_law_latest (aCons (mVar 0) (aCons (mVar 1) aNil))))
  (mSeq (mSet 4 (mOp fAdd (mOp fAdd (mOp fAdd (mVar 3) (mVar 3)) (mVar 3)) (mC (.int 2))))
  (mSeq (mIfS (mOr (mNot (mTest (mL f_law_is_just (aCons (mL flateness (aCons (mVar 0) (aCons (mVar 1) aNil))) (aCons (mVar 3) aNil))))) (mNot (mTest (mL f_law_is_just (aCons (mL fwait (aCons (mVar 0) (aCons (mVar 1) aNil))) (aCons (mVar 4) aNil)))))) (mRet (mC (.bl false))) mNext)
  (mSeq (mIfS (mNot (mTest (mL f_law_is_just (aCons (mL fhold (aCons (mVar 0) (aCons (mVar 1) aNil))) (aCons (mL f_law_span (aCons (mC (.int 0)) (aCons (mOp fAdd (mVar 4) (mC (.int 1))) aNil))) aNil))))) (mRet (mC (.bl false))) mNext)
  (mRet (mL f_law_is_just (aCons (mL fframes_of (aCons (mVar 2) (aCons (mVar 0) (aCons (mVar 1) aNil)))) (aCons (mOp fAdd (mL f_law_span (aCons (mC (.int 0)) (aCons (mVar 2) aNil))) (mL f_law_span (aCons (mC (.int 0)) (aCons (mOp fAdd (mVar 4) (mC (.int 1))) aNil)))) aNil))))))))
noncomputable def f_law_constants_hold : FnL := runB 3 5 m_law_constants_hold
theorem ok_law_constants_hold {P : Program} {w : World} {K : PySem.W.Frag} {mg : Str → Option Value} {base : Heap} {fa : Addr} {fd : FuncData} (B : Bi mg) (F : FnP K "_law_constants_hold" s_law_constants_hold fa fd) (g : mg "_law_constants_hold" = some (.ref fa)) (D_law_latest : DefOk P w K mg base 1 "_law_latest" ["late", "lost"] f_law_latest) (D_law_is_just : DefOk P w K mg base 2 "_law_is_just" ["told", "due"] f_law_is_just) (Dlateness : DefOk P w K mg base 1 "lateness" ["d", "l"] flateness) (Dwait : DefOk P w K mg base 1 "wait" ["d", "l"] fwait) (D_law_span : DefOk P w K mg base 1 "_law_span" ["low", "high"] f_law_span) (Dhold : DefOk P w K mg base 2 "hold" ["d", "l"] fhold) (Dframes_of : DefOk P w K mg base 2 "frames_of" ["ticks", "d", "l"] fframes_of) :
    DefOk P w K mg base 3 "_law_constants_hold" ["late", "lost", "ticks"] f_law_constants_hold :=
  okDef (N := ["late", "lost", "ticks", "reach", "waiting"]) F g sc_law_constants_hold (fun _ _ _ _ _ _ us hl => match us, hl with | [_, _, _], _ => rfl) fun cdv A outer s H E hr =>
    (fss_cons (fs_set (i := 3) sc_law_constants_hold.nd rfl (.inl rfl) (fe_callD D_law_latest hr (by rfl) (fa_cons (fv 0) (fa_cons (fv 1) fa_nil))))
    (fss_cons (fs_set (i := 4) sc_law_constants_hold.nd rfl (.inl rfl) (fe_op op_addF (fe_op op_addF (fe_op op_addF (fv 3) (fv 3)) (fv 3)) fe_int))
    (fss_cons (fs_if (fw_pt (fw_or (ft_not (ft_val (fe_callD D_law_is_just hr (by rfl) (fa_cons (fe_callD Dlateness hr (by rfl) (fa_cons (fv 0) (fa_cons (fv 1) fa_nil))) (fa_cons (fv 3) fa_nil))))) (fw_or1 (ft_not (ft_val (fe_callD D_law_is_just hr (by rfl) (fa_cons (fe_callD Dwait hr (by rfl) (fa_cons (fv 0) (fa_cons (fv 1) fa_nil))) (fa_cons (fv 4) fa_nil)))))))) (fss_one (fs_ret fe_bl)) fss_nil)
    (fss_cons (fs_if (ft_not (ft_val (fe_callD D_law_is_just hr (by rfl) (fa_cons (fe_callD Dhold hr (by rfl) (fa_cons (fv 0) (fa_cons (fv 1) fa_nil))) (fa_cons (fe_callD D_law_span hr (by rfl) (fa_cons fe_int (fa_cons (fe_op op_addF (fv 4) fe_int) fa_nil))) fa_nil))))) (fss_one (fs_ret fe_bl)) fss_nil)
    (fss_one (fs_ret (fe_callD D_law_is_just hr (by rfl) (fa_cons (fe_callD Dframes_of hr (by rfl) (fa_cons (fv 2) (fa_cons (fv 0) (fa_cons (fv 1) fa_nil)))) (fa_cons (fe_op op_addF (fe_callD D_law_span hr (by rfl) (fa_cons fe_int (fa_cons (fv 2) fa_nil))) (fe_callD D_law_span hr (by rfl) (fa_cons fe_int (fa_cons (fe_op op_addF (fv 4) fe_int) fa_nil)))) fa_nil)))))))))

abbrev s_law_budgets_hold : Stmt := topS 19
abbrev N_law_budgets_hold : List Str := ["late", "lost", "lag", "falls", "seats", "reach", "waiting", "frame", "first", "words", "seat"]
theorem sc_law_budgets_hold : FnScope ["late", "lost", "lag", "falls", "seats", "reach", "waiting", "frame", "first", "words", "seat"] ["late", "lost", "lag", "falls", "seats"] (defScope s_law_budgets_hold) := ⟨rfl, rfl, rfl, by decide +kernel, rfl, by decide +kernel, by decide +kernel⟩
noncomputable def m_law_budgets_hold_b1 : Ms :=
  (mSet 9 (mOp fAdd (mVar 9) (mL f_law_span (aCons (mOp fSub (mVar 7) (mVar 6)) (aCons (mOp fAdd (mOp fAdd (mVar 7) (mVar 2)) (mC (.int 1))) aNil)))))
noncomputable def m_law_budgets_hold : Ms :=
  (mSeq (mSet 5 (mL f_law_latest (aCons (mVar 0) (aCons (mVar 1) aNil))))
  (mSeq (mSet 6 (mOp fAdd (mOp fAdd (mOp fAdd (mVar 5) (mVar 5)) (mVar 5)) (mC (.int 2))))
  (mSeq (mSet 7 (mC (.int 100)))
  (mSeq (mSet 8 (mOp fSub (mOp fAdd (mVar 7) (mVar 2)) (mVar 5)))
  (mSeq (mIfS (mTest (mOp fGt (mVar 3) (mC (.int 0)))) (mSet 8 (mOp fSub (mOp fAdd (mVar 7) (mVar 2)) (mVar 6))) mNext)
  (mSeq (mIfS (mNot (mTest (mL f_law_is_just (aCons (mL fmost_again (aCons (mVar 0) (aCons (mVar 1) (aCons (mVar 2) (aCons (mVar 3) aNil))))) (aCons (mL f_law_span (aCons (mVar 8) (aCons (mVar 7) aNil))) aNil))))) (mRet (mC (.bl false))) mNext)
  (mSeq (mSet 9 (mC (.int 0)))
  (mSeq (mFor (iRg fRg1 (aCons (mVar 4) aNil)) (gN 10)
    m_law_budgets_hold_b1)
  (mSeq (mIfS (mNot (mTest (mL f_law_is_just (aCons (mL fmost_words (aCons (mVar 4) (aCons (mVar 0) (aCons (mVar 1) (aCons (mVar 2) aNil))))) (aCons (mVar 9) aNil))))) (mRet (mC (.bl false))) mNext)
  (mRet (mL f_law_is_just (aCons (mL fmost_marks (aCons (mVar 0) (aCons (mVar 1) aNil))) (aCons (mL f_law_span (aCons (mOp fSub (mVar 7) (mOp fMul (mC (.int 2)) (mVar 6))) (aCons (mOp fAdd (mVar 7) (mC (.int 1))) aNil))) aNil)))))))))))))
noncomputable def f_law_budgets_hold : FnL := runB 5 11 m_law_budgets_hold
theorem ok_law_budgets_hold {P : Program} {w : World} {K : PySem.W.Frag} {mg : Str → Option Value} {base : Heap} {fa : Addr} {fd : FuncData} (B : Bi mg) (F : FnP K "_law_budgets_hold" s_law_budgets_hold fa fd) (g : mg "_law_budgets_hold" = some (.ref fa)) (D_law_latest : DefOk P w K mg base 1 "_law_latest" ["late", "lost"] f_law_latest) (D_law_is_just : DefOk P w K mg base 2 "_law_is_just" ["told", "due"] f_law_is_just) (D_law_span : DefOk P w K mg base 1 "_law_span" ["low", "high"] f_law_span) (Dmost_again : DefOk P w K mg base 2 "most_again" ["d", "l", "lag", "falls"] fmost_again) (Dmost_words : DefOk P w K mg base 2 "most_words" ["seats", "d", "l", "lag"] fmost_words) (Dmost_marks : DefOk P w K mg base 2 "most_marks" ["d", "l"] fmost_marks) :
    DefOk P w K mg base 3 "_law_budgets_hold" ["late", "lost", "lag", "falls", "seats"] f_law_budgets_hold :=
  okDef (N := ["late", "lost", "lag", "falls", "seats", "reach", "waiting", "frame", "first", "words", "seat"]) F g sc_law_budgets_hold (fun _ _ _ _ _ _ us hl => match us, hl with | [_, _, _, _, _], _ => rfl) fun cdv A outer s H E hr =>
    (fss_cons (fs_set (i := 5) sc_law_budgets_hold.nd rfl (.inl rfl) (fe_callD D_law_latest hr (by rfl) (fa_cons (fv 0) (fa_cons (fv 1) fa_nil))))
    (fss_cons (fs_set (i := 6) sc_law_budgets_hold.nd rfl (.inl rfl) (fe_op op_addF (fe_op op_addF (fe_op op_addF (fv 5) (fv 5)) (fv 5)) fe_int))
    (fss_cons (fs_set (i := 7) sc_law_budgets_hold.nd rfl (.inl rfl) fe_int)
    (fss_cons (fs_set (i := 8) sc_law_budgets_hold.nd rfl (.inl rfl) (fe_op op_subF (fe_op op_addF (fv 7) (fv 2)) (fv 5)))
    (fss_cons (fs_if (ft_cmp op_gtF (fv 3) fe_int (nomark _)) (fss_one (fs_set (i := 8) sc_law_budgets_hold.nd rfl (.inl rfl) (fe_op op_subF (fe_op op_addF (fv 7) (fv 2)) (fv 6)))) fss_nil)
    (fss_cons (fs_if (ft_not (ft_val (fe_callD D_law_is_just hr (by rfl) (fa_cons (fe_callD Dmost_again hr (by rfl) (fa_cons (fv 0) (fa_cons (fv 1) (fa_cons (fv 2) (fa_cons (fv 3) fa_nil))))) (fa_cons (fe_callD D_law_span hr (by rfl) (fa_cons (fv 8) (fa_cons (fv 7) fa_nil))) fa_nil))))) (fss_one (fs_ret fe_bl)) fss_nil)
    (fss_cons (fs_set (i := 9) sc_law_budgets_hold.nd rfl (.inl rfl) fe_int)
    (fss_cons (fs_for PassesOwn.never rfl (fi_range1 (by rfl) B.b_range (fa_cons (fv 4) fa_nil)) (fg_name (i := 10) sc_law_budgets_hold.nd rfl (.inl rfl)) (fss_one (fs_set (i := 9) sc_law_budgets_hold.nd rfl (.inl rfl) (fe_op op_addF (fv 9) (fe_callD D_law_span hr (by rfl) (fa_cons (fe_op op_subF (fv 7) (fv 6)) (fa_cons (fe_op op_addF (fe_op op_addF (fv 7) (fv 2)) fe_int) fa_nil)))))))
    (fss_cons (fs_if (ft_not (ft_val (fe_callD D_law_is_just hr (by rfl) (fa_cons (fe_callD Dmost_words hr (by rfl) (fa_cons (fv 4) (fa_cons (fv 0) (fa_cons (fv 1) (fa_cons (fv 2) fa_nil))))) (fa_cons (fv 9) fa_nil))))) (fss_one (fs_ret fe_bl)) fss_nil)
    (fss_one (fs_ret (fe_callD D_law_is_just hr (by rfl) (fa_cons (fe_callD Dmost_marks hr (by rfl) (fa_cons (fv 0) (fa_cons (fv 1) fa_nil))) (fa_cons (fe_callD D_law_span hr (by rfl) (fa_cons (fe_op op_subF (fv 7) (fe_op op_mulF fe_int (fv 6))) (fa_cons (fe_op op_addF (fv 7) fe_int) fa_nil))) fa_nil))))))))))))))

abbrev s_law_least_holds : Stmt := topS 20
abbrev N_law_least_holds : List Str := ["late", "lost", "most", "due"]
theorem sc_law_least_holds : FnScope ["late", "lost", "most", "due"] ["late", "lost", "most"] (defScope s_law_least_holds) := ⟨rfl, rfl, rfl, by decide +kernel, rfl, by decide +kernel, by decide +kernel⟩
noncomputable def m_law_least_holds : Ms :=
  (mSeq (mSet 3 (mL f_law_least_by_trying (aCons (mL f_law_latest (aCons (mVar 0) (aCons (mVar 1) aNil))) (aCons (mVar 2) aNil))))
  (mSeq (mIfS (mNot (mTest (mL f_law_is_just (aCons (mL fleast_lag (aCons (mVar 0) (aCons (mVar 1) (aCons (mVar 2) aNil)))) (aCons (mVar 3) aNil))))) (mRet (mC (.bl false))) mNext)
  (mSeq (mIfS (mAnd (mTest (mOp fLe (mVar 3) (mC (.int 3)))) (mTest (mOp fGt (mL fmost_again (aCons (mVar 0) (aCons (mVar 1) (aCons (mVar 3) (aCons (mC (.int 0)) aNil))))) (mVar 2)))) (mRet (mC (.bl false))) mNext)
  (mRet (mOrV (mOp fEq (mVar 3) (mC (.int 0))) (mOrV (mOp fGt (mVar 3) (mC (.int 4))) (mOp fGt (mL fmost_again (aCons (mVar 0) (aCons (mVar 1) (aCons (mOp fSub (mVar 3) (mC (.int 1))) (aCons (mC (.int 0)) aNil))))) (mVar 2))))))))
noncomputable def f_law_least_holds : FnL := runB 3 4 m_law_least_holds
theorem ok_law_least_holds {P : Program} {w : World} {K : PySem.W.Frag} {mg : Str → Option Value} {base : Heap} {fa : Addr} {fd : FuncData} (B : Bi mg) (F : FnP K "_law_least_holds" s_law_least_holds fa fd) (g : mg "_law_least_holds" = some (.ref fa)) (D_law_least_by_trying : DefOk P w K mg base 2 "_law_least_by_trying" ["reach", "most"] f_law_least_by_trying) (D_law_latest : DefOk P w K mg base 1 "_law_latest" ["late", "lost"] f_law_latest) (D_law_is_just : DefOk P w K mg base 2 "_law_is_just" ["told", "due"] f_law_is_just) (Dleast_lag : DefOk P w K mg base 1 "least_lag" ["d", "l", "most"] fleast_lag) (Dmost_again : DefOk P w K mg base 2 "most_again" ["d", "l", "lag", "falls"] fmost_again) :
    DefOk P w K mg base 3 "_law_least_holds" ["late", "lost", "most"] f_law_least_holds :=
  okDef (N := ["late", "lost", "most", "due"]) F g sc_law_least_holds (fun _ _ _ _ _ _ us hl => match us, hl with | [_, _, _], _ => rfl) fun cdv A outer s H E hr =>
    (fss_cons (fs_set (i := 3) sc_law_least_holds.nd rfl (.inl rfl) (fe_callD D_law_least_by_trying hr (by rfl) (fa_cons (fe_callD D_law_latest hr (by rfl) (fa_cons (fv 0) (fa_cons (fv 1) fa_nil))) (fa_cons (fv 2) fa_nil))))
    (fss_cons (fs_if (ft_not (ft_val (fe_callD D_law_is_just hr (by rfl) (fa_cons (fe_callD Dleast_lag hr (by rfl) (fa_cons (fv 0) (fa_cons (fv 1) (fa_cons (fv 2) fa_nil)))) (fa_cons (fv 3) fa_nil))))) (fss_one (fs_ret fe_bl)) fss_nil)
    (fss_cons (fs_if (fw_pt (fw_and (ft_cmp op_leF (fv 3) fe_int (nomark _)) (fw_and1 (ft_cmp op_gtF (fe_callD Dmost_again hr (by rfl) (fa_cons (fv 0) (fa_cons (fv 1) (fa_cons (fv 3) (fa_cons fe_int fa_nil))))) (fv 2) (nomark _))))) (fss_one (fs_ret fe_bl)) fss_nil)
    (fss_one (fs_ret (fe_or (fe_cmp (op_eqF hr.units) (fv 3) fe_int (nomark _)) (fe_or (fe_cmp op_gtF (fv 3) fe_int (nomark _)) (fe_one (fe_cmp op_gtF (fe_callD Dmost_again hr (by rfl) (fa_cons (fv 0) (fa_cons (fv 1) (fa_cons (fe_op op_subF (fv 3) fe_int) (fa_cons fe_int fa_nil))))) (fv 2) (nomark _))))))))))
abbrev s_law_begin : Stmt := topS 10
theorem sc_law_begin : FnScope ["script", "cell"] ["script"] (defScope s_law_begin) := ⟨rfl, rfl, rfl, by decide +kernel, rfl, by decide +kernel, by decide +kernel⟩
theorem ok_law_begin {P : Program} {w : World} {K : PySem.W.Frag} {mg : Str → Option Value} {base : Heap} {fa : Addr} {fd : FuncData} (B : Bi mg) (F : FnP K "_law_begin" s_law_begin fa fd) : FnOk P w K mg base CX0 1 fa fd ["script"] (spBegin K) := by
  refine F.ok sc_law_begin (fun vs H Q E h => ?_) (fun cdv A outer s H vs Q E hr h => ⟨tBeg K, PSs.nox ?_, beg_reads h⟩)
  · obtain ⟨a, ns, rfl, _⟩ := h
    rfl
  · exact pss_one (ps_ret (pe_lst (pa_cons (pe_lc (own := [("cell", 1)]) (g := gName 1) (tt := tYes) rfl sc_law_begin.nd (pi_list (pv 0)) (blkOk_by (N := ["script", "cell"]) (sc := defScope s_law_begin) (by decide +kernel)) (fun _ _ _ _ _ => pg_name (i := 1) sc_law_begin.nd rfl (.inl rfl)) (fun _ _ _ _ _ => pts_nil)
      (fun _ _ _ _ _ => pe_callTy call_int1 (by rfl) B.b_int (by decide +kernel) (pa_cons (pv 1) pa_nil))) (pa_cons pe_int (pa_cons pe_int (pa_cons pe_int pa_nil))))))

abbrev slaw : Stmt := topS 21
abbrev Nlaw : List Str := ["script", "d", "turn", "late", "lost"]
theorem sclaw : FnScope ["script", "d", "turn", "late", "lost"] ["script"] (defScope slaw) := ⟨rfl, rfl, rfl, by decide +kernel, rfl, by decide +kernel, by decide +kernel⟩
noncomputable def mlaw_b1 : Ms :=
  (mSeq (mSet 3 (mL f_law_pick (aCons (mVar 1) (aCons (mL fLst (aCons (mC (.int 0)) (aCons (mC (.int 1)) (aCons (mC (.int 2)) (aCons (mC (.int 3)) (aCons (mC (.int 0)) (aCons (mC (.int 3)) aNil))))))) aNil))))
  (mSeq (mSet 4 (mL f_law_pick (aCons (mVar 1) (aCons (mL fLst (aCons (mC (.int 0)) (aCons (mC (.int 1)) (aCons (mC (.int 2)) (aCons (mC (.int 3)) (aCons (mC (.int 0)) (aCons (mC (.int 3)) aNil))))))) aNil))))
  (mSeq (mIfS (mNot (mTest (mL f_law_constants_hold (aCons (mVar 3) (aCons (mVar 4) (aCons (mOp fAdd (mC (.int 1)) (mL f_law_draw (aCons (mVar 1) (aCons (mC (.int 24)) aNil)))) aNil)))))) (mRet (mC (.bl false))) mNext)
  (mSeq (mIfS (mNot (mTest (mL f_law_budgets_hold (aCons (mVar 3) (aCons (mVar 4) (aCons (mL f_law_draw (aCons (mVar 1) (aCons (mC (.int 4)) aNil))) (aCons (mL f_law_draw (aCons (mVar 1) (aCons (mC (.int 3)) aNil))) (aCons (mOp fAdd (mC (.int 1)) (mL f_law_draw (aCons (mVar 1) (aCons (mC (.int 4)) aNil)))) aNil)))))))) (mRet (mC (.bl false))) mNext)
  (mIfS (mNot (mTest (mL f_law_least_holds (aCons (mVar 3) (aCons (mVar 4) (aCons (mL f_law_pick (aCons (mVar 1) (aCons (mL fLst (aCons (mC (.int 0)) (aCons (mC (.int 1)) (aCons (mC (.int 2)) (aCons (mC (.int 3)) (aCons (mC (.int 4)) (aCons (mC (.int 5)) (aCons (mC (.int 6)) (aCons (mC (.int 7)) (aCons (mC (.int 24)) aNil)))))))))) aNil))) aNil)))))) (mRet (mC (.bl false))) mNext)))))
noncomputable def mlaw : Ms :=
  (mSeq (mFor (iRg fRg1 (aCons (mC (.int 8)) aNil)) (gN 2)
    mlaw_b1)
  (mRet (mC (.bl true))))
theorem oklaw {P : Program} {w : World} {K : PySem.W.Frag} {mg : Str → Option Value} {base : Heap} {fa fb : Addr} {fd fdb : FuncData} (B : Bi mg) (F : FnP K "law" slaw fa fd) (FB : FnP K "_law_begin" s_law_begin fb fdb) (gB : mg "_law_begin" = some (.ref fb)) (D_law_pick : DefOk P w K mg base 2 "_law_pick" ["d", "row"] f_law_pick) (D_law_constants_hold : DefOk P w K mg base 3 "_law_constants_hold" ["late", "lost", "ticks"] f_law_constants_hold) (D_law_draw : DefOk P w K mg base 1 "_law_draw" ["d", "many"] f_law_draw) (D_law_budgets_hold : DefOk P w K mg base 3 "_law_budgets_hold" ["late", "lost", "lag", "falls", "seats"] f_law_budgets_hold) (D_law_least_holds : DefOk P w K mg base 3 "_law_least_holds" ["late", "lost", "most"] f_law_least_holds)
    (M : ∀ ns : List Int, ns.length ≤ 63 → ∃ S', mlaw (none :: some (.loc 1) :: List.replicate 3 none) (begSto ns) = .ret (.bl true) S') : FnOk P w K mg base CX0 4 fa fd ["script"] (spLaw K) := by
  have GB : FnOk P w K mg base CX0 1 fb fdb ["script"] (spBegin K) := ok_law_begin B FB
  have bB : Binds K fdb ["script"] [] := FB.bindsN fun _ _ _ _ _ _ us hl => match us, hl with | [_], _ => rfl
  refine F.ok sclaw (fun vs H Q E h => ?_) (fun cdv A outer s H vs Q E hr h => ⟨_, PSs.nox (pss_cons (ps_set (i := 1) sclaw.nd rfl (.inl rfl) (pe_call (E := E0) GB (hr.mono (by decide)) (by rfl) gB FB.kp bB .nil pass0 (pa_cons (pv 0) pa_nil))) (?_ : FSs _ E _ mlaw)), law_reads (N := Nlaw) rfl M h⟩)
  · obtain ⟨a, ns, rfl, _⟩ := h
    rfl
  · exact (fss_cons (fs_for PassesOwn.never rfl (fi_range1 (by rfl) B.b_range (fa_cons fe_int fa_nil)) (fg_name (i := 2) sclaw.nd rfl (.inl rfl)) (fss_cons (fs_set (i := 3) sclaw.nd rfl (.inl rfl) (fe_callD D_law_pick hr (by rfl) (fa_cons (fv 1) (fa_cons (fe_lst (fa_cons fe_int (fa_cons fe_int (fa_cons fe_int (fa_cons fe_int (fa_cons fe_int (fa_cons fe_int fa_nil))))))) fa_nil))))
    (fss_cons (fs_set (i := 4) sclaw.nd rfl (.inl rfl) (fe_callD D_law_pick hr (by rfl) (fa_cons (fv 1) (fa_cons (fe_lst (fa_cons fe_int (fa_cons fe_int (fa_cons fe_int (fa_cons fe_int (fa_cons fe_int (fa_cons fe_int fa_nil))))))) fa_nil))))
    (fss_cons (fs_if (ft_not (ft_val (fe_callD D_law_constants_hold hr (by rfl) (fa_cons (fv 3) (fa_cons (fv 4) (fa_cons (fe_op op_addF fe_int (fe_callD D_law_draw hr (by rfl) (fa_cons (fv 1) (fa_cons fe_int fa_nil)))) fa_nil)))))) (fss_one (fs_ret fe_bl)) fss_nil)
    (fss_cons (fs_if (ft_not (ft_val (fe_callD D_law_budgets_hold hr (by rfl) (fa_cons (fv 3) (fa_cons (fv 4) (fa_cons (fe_callD D_law_draw hr (by rfl) (fa_cons (fv 1) (fa_cons fe_int fa_nil))) (fa_cons (fe_callD D_law_draw hr (by rfl) (fa_cons (fv 1) (fa_cons fe_int fa_nil))) (fa_cons (fe_op op_addF fe_int (fe_callD D_law_draw hr (by rfl) (fa_cons (fv 1) (fa_cons fe_int fa_nil)))) fa_nil)))))))) (fss_one (fs_ret fe_bl)) fss_nil)
    (fss_one (fs_if (ft_not (ft_val (fe_callD D_law_least_holds hr (by rfl) (fa_cons (fv 3) (fa_cons (fv 4) (fa_cons (fe_callD D_law_pick hr (by rfl) (fa_cons (fv 1) (fa_cons (fe_lst (fa_cons fe_int (fa_cons fe_int (fa_cons fe_int (fa_cons fe_int (fa_cons fe_int (fa_cons fe_int (fa_cons fe_int (fa_cons fe_int (fa_cons fe_int fa_nil)))))))))) fa_nil))) fa_nil)))))) (fss_one (fs_ret fe_bl)) fss_nil)))))))
    (fss_one (fs_ret fe_bl)))
end G
set_option linter.all false
set_option maxRecDepth 100000
set_option maxHeartbeats 4000000
namespace G
open PySem PySem.Spec PyProof.Rows L2 FL
theorem trim_d2 {x y : O} {J : Sto} {d : D} {a b c : Int} (hd : d.und (J.length + 2) = true) : trim (x :: y :: J) d (x :: .lst [.loc 0, .int a, .int b, .int c] :: J) = .ok d (x :: .lst [.loc 0, .int a, .int b, .int c] :: J) := by
  refine trim_keep rfl hd fun i hi => ?_
  match i with
  | 0 => exact .inl rfl
  | 1 => exact .inr ⟨_, rfl, by simp [O.und]⟩
  | i + 2 => exact .inl rfl
theorem fmod_range {x m : Int} (h : 0 < m) : 0 ≤ x.fmod m ∧ x.fmod m < m := ⟨Int.fmod_nonneg_of_pos x h, Int.fmod_lt_of_pos x h⟩
theorem draw_eq0 (ns : List Int) (p r s : Int) (J : Sto) (many : Int) (h0 : 0 < many) (h1 : many < 1000000) (hp : 0 ≤ p) :
    ∃ x p' r' s', 0 ≤ p' ∧ f_law_draw [.loc 1, .int many] (dst ns p r s ++ J) = .ok (.int (Int.fmod x many)) (dst ns p' r' s' ++ J) := by
  have hm : many ≠ 0 := by omega
  have hn : many.natAbs < 1073741824 := by omega
  have hP : ¬ ((2 : Int) ^ 6000 = 0) := fun z => absurd (Int.pow_pos (n := 2) (m := 6000) (by decide)) (by rw [z]; decide)
  by_cases hr : 0 < r
  · refine ⟨r, p, Int.fdiv r many, s, hp, ?_⟩
    simp [f_law_draw, runB, m_law_draw, dst, hr, hm, hn, atI, ixN, trim_d2]
  · have hp1 : 0 ≤ p + 1 := by omega
    generalize hQ : (2 : Int) ^ 6000 = Z at hP
    by_cases hl : p < ns.length
    · have hl' : p.toNat < ns.length := by omega
      by_cases hneg : ns[p.toNat] < 0
      · by_cases hb : 2000000000000000000 ≤ 2 * -ns[p.toNat] + 1
        · refine ⟨?x1, p + 1, ?r1, ?s1, hp1, ?e1⟩
          case e1 =>
            simp [f_law_draw, runB, m_law_draw, dst, hr, hm, hn, atI, ixN, hl, hp, hneg, hb, hQ, hP]
            rw [trim_d2 (by simp)]
        · refine ⟨?x2, p + 1, ?r2, ?s2, hp1, ?e2⟩
          case e2 =>
            simp [f_law_draw, runB, m_law_draw, dst, hr, hm, hn, atI, ixN, hl, hp, hneg, hb, hQ, hP]
            rw [trim_d2 (by simp)]
      · by_cases hb : 2000000000000000000 ≤ 2 * ns[p.toNat]
        · refine ⟨?x3, p + 1, ?r3, ?s3, hp1, ?e3⟩
          case e3 =>
            simp [f_law_draw, runB, m_law_draw, dst, hr, hm, hn, atI, ixN, hl, hp, hneg, hb, hQ, hP]
            rw [trim_d2 (by simp)]
        · refine ⟨?x4, p + 1, ?r4, ?s4, hp1, ?e4⟩
          case e4 =>
            simp [f_law_draw, runB, m_law_draw, dst, hr, hm, hn, atI, ixN, hl, hp, hneg, hb, hQ, hP]
            rw [trim_d2 (by simp)]
    · refine ⟨?x5, p + 1, ?r5, ?s5, hp1, ?e5⟩
      case e5 =>
        simp [f_law_draw, runB, m_law_draw, dst, hr, hm, hn, atI, ixN, hl, hp, hQ, hP]
        rw [trim_d2 (by simp)]
/-- a draw: a number below many, the draws' state again one -/
theorem draw_eq (ns : List Int) (p r s : Int) (J : Sto) (many : Int) (h0 : 0 < many) (h1 : many < 1000000) (hp : 0 ≤ p) :
    ∃ k p' r' s', 0 ≤ k ∧ k < many ∧ 0 ≤ p' ∧ f_law_draw [.loc 1, .int many] (dst ns p r s ++ J) = .ok (.int k) (dst ns p' r' s' ++ J) := by
  obtain ⟨x, p', r', s', h, e⟩ := draw_eq0 ns p r s J many h0 h1 hp
  exact ⟨_, p', r', s', (fmod_range h0).1, (fmod_range h0).2, h, e⟩
/-- a pick out of a written row of ints -/
theorem pick_eq (ns : List Int) (p r s : Int) (J : Sto) (row : List Int) (h0 : 0 < row.length) (h1 : row.length < 1000000) (hp : 0 ≤ p) :
    ∃ x p' r' s', x ∈ row ∧ 0 ≤ p' ∧ f_law_pick [.loc 1, .loc (2 + J.length)] (dst ns p r s ++ (J ++ [.lst (row.map D.int)])) = .ok (.int x) (dst ns p' r' s' ++ (J ++ [.lst (row.map D.int)])) := by
  obtain ⟨k, p', r', s', hk0, hk1, hp', e⟩ := draw_eq ns p r s (J ++ [.lst (row.map D.int)]) row.length (by omega) (by omega) hp
  have hk : k.toNat < row.length := by omega
  refine ⟨row[k.toNat], p', r', s', List.getElem_mem hk, hp', ?_⟩
  simp [f_law_pick, runB, m_law_pick, e, atI, ixN, hk0, hk1, hk, trim_dst]
theorem lateness_eq (a b : Int) (S : Sto) : flateness [.int a, .int b] S = .ok (.int (a + b)) S := by
  simp [flateness, runB, mlateness, trim_self]
theorem wait_eq (a b : Int) (S : Sto) : fwait [.int a, .int b] S = .ok (.int (3 * (a + b) + 2)) S := by
  simp [fwait, runB, mwait, trim_self]
theorem hold_eq (a b : Int) (S : Sto) : fhold [.int a, .int b] S = .ok (.int (3 * (a + b) + 3)) S := by
  simp [fhold, runB, mhold, wait_eq, trim_self]; omega
theorem frames_eq (t a b : Int) (S : Sto) : fframes_of [.int t, .int a, .int b] S = .ok (.int (t + (3 * (a + b) + 3))) S := by
  simp [fframes_of, runB, mframes_of, wait_eq, trim_self]; omega
theorem again_eq (a b lag falls : Int) (S : Sto) : fmost_again [.int a, .int b, .int lag, .int falls] S = .ok (.int (if falls = 0 then max 0 (a + b - lag) else max 0 (3 * (a + b) + 2 - lag))) S := by
  by_cases h : falls = 0
  · simp [fmost_again, runB, mmost_again, wait_eq, trim_self, h]; omega
  · simp [fmost_again, runB, mmost_again, wait_eq, trim_self, h]; omega
theorem least_eq (a b most : Int) (S : Sto) : fleast_lag [.int a, .int b, .int most] S = .ok (.int (max 0 (a + b - most))) S := by
  simp [fleast_lag, runB, mleast_lag, trim_self]; omega
theorem words_eq (n a b lag : Int) (hn : -18446744073709551616 < n ∧ n < 18446744073709551616) (S : Sto) : fmost_words [.int n, .int a, .int b, .int lag] S = .ok (.int (n * (3 * (a + b) + 2 + lag + 1))) S := by
  simp [fmost_words, runB, mmost_words, wait_eq, trim_self, hn]
theorem marks_eq (a b : Int) (S : Sto) : fmost_marks [.int a, .int b] S = .ok (.int (2 * (3 * (a + b) + 2) + 1)) S := by
  simp [fmost_marks, runB, mmost_marks, wait_eq, trim_self]
theorem isint_eq (a : Int) (S : Sto) : f_law_is_int [.int a] S = .ok (.bl true) S := by
  simp [f_law_is_int, runB, m_law_is_int, kit_ii, kit_ib, trim_self]
theorem just_eq (a b : Int) (S : Sto) : f_law_is_just [.int a, .int b] S = .ok (.bl (decide (a = b))) S := by
  simp [f_law_is_just, runB, m_law_is_just, isint_eq, trim_self]
theorem span_eq (a b : Int) (S : Sto) (ha : -1000 ≤ a) (ha' : a ≤ 1000) (hb : -1000 ≤ b) (hb' : b ≤ 1000) : f_law_span [.int a, .int b] S = .ok (.int (max 0 (b - a))) S := by
  have h1 : -4611686018427387904 ≤ a ∧ a < 4611686018427387904 := by omega
  have h2 : -4611686018427387904 ≤ b ∧ b < 4611686018427387904 := by omega
  simp [f_law_span, runB, m_law_span, h1, h2]
  rw [compL_id (by simp) (by simp [sizeLine_eq]; omega)]
  simp [trim_pre]; omega
theorem latest_in (a b n f : Int) (S : Sto) (dl : Option D) (hb : 0 ≤ a) :
    ∃ dl', forL (.its (rgD 0 (a + 1).toNat)) (gN 4) m_law_latest_b1 (rgD 0 (a + 1).toNat) [some (.int a), some (.int b), some (.int f), some (.int n), dl] S = .nx [some (.int a), some (.int b), some (.int (max f (n + a))), some (.int n), dl'] S := by
  obtain ⟨σ', S', e, rfl, x, dl', rfl, hx⟩ := for_src (src := .its (rgD 0 (a + 1).toNat)) (g := gN 4) (b := m_law_latest_b1) (σ := [some (.int a), some (.int b), some (.int f), some (.int n), dl]) (S := S)
    (fun i σ S' => S' = S ∧ ∃ x dl', σ = [some (.int a), some (.int b), some (.int x), some (.int n), dl'] ∧ (i = 0 → x = f) ∧ (0 < i → x = max f (n + (i - 1))))
    ⟨rfl, f, dl, rfl, fun _ => rfl, fun h => absurd h (by omega)⟩ (fun _ _ _ _ => trivial) (by
      intro i d σ S' hd p
      obtain ⟨rfl, x, dl', rfl, h0, h1⟩ := p
      have hd : (rgD 0 (a + 1).toNat)[i]? = some d := hd
      rw [rgD_get] at hd
      split at hd
      · cases hd
        have h0' : (i : Int) = 0 → x = f := fun h => h0 (by omega)
        have h1' : (0 : Int) < i → x = max f (n + (i - 1)) := fun h => h1 (by omega)
        have hc : (0 < i + 1 → max x (n + (i : Int)) = max f (n + (((i + 1 : Nat) : Int) - 1))) := fun _ => by
          rcases Nat.eq_zero_or_pos i with h | h
          · subst h; rw [h0 rfl]; rfl
          · rw [h1 h]; omega
        generalize (i : Int) = k at *
        refine ⟨[some (.int a), some (.int b), some (.int (max x (n + k))), some (.int n), some (.int (0 + k))], S', .inl ?_, rfl, _, _, rfl, fun h => absurd h (by omega), hc⟩
        simp [m_law_latest_b1]
        omega
      · cases hd)
  refine ⟨dl', ?_⟩
  rw [Src.items] at e
  rw [e]
  have hl : (Src.its (rgD 0 (a + 1).toNat)).items.length = (a + 1).toNat := by simp
  rw [hl] at hx
  have h3 : max f (n + ((((a + 1).toNat : Nat) : Int) - 1)) = max f (n + a) := by omega
  rw [hx.2 (by omega), h3]
theorem latest_eq (a b : Int) (ha0 : 0 ≤ a) (hb0 : 0 ≤ b) (ha : a ≤ 3) (hb : b ≤ 3) (S : Sto) : f_law_latest [.int a, .int b] S = .ok (.int (a + b)) S := by
  have hr : -4611686018427387904 ≤ b + 1 ∧ b + 1 < 4611686018427387904 := by omega
  have hr2 : -4611686018427387904 ≤ a + 1 ∧ a + 1 < 4611686018427387904 := by omega
  obtain ⟨σ', S', e, rfl, x, nn, dl', rfl, hx⟩ := for_src (src := .its (rgD 0 (b + 1).toNat)) (g := gN 3) (b := m_law_latest_b2) (σ := [some (.int a), some (.int b), some (.int 0), none, none]) (S := S)
    (fun i σ S' => S' = S ∧ ∃ x nn dl', σ = [some (.int a), some (.int b), some (.int x), nn, dl'] ∧ (i = 0 → x = 0) ∧ (0 < i → x = a + (i - 1)))
    ⟨rfl, 0, none, none, rfl, fun _ => rfl, fun h => absurd h (by omega)⟩ (fun _ _ _ _ => trivial) (by
      intro i d σ S' hd p
      obtain ⟨rfl, x, nn, dl', rfl, h0, h1⟩ := p
      have hd : (rgD 0 (b + 1).toNat)[i]? = some d := hd
      rw [rgD_get] at hd
      split at hd
      · cases hd
        have hc : 0 < i + 1 → max x ((i : Int) + a) = a + (((i + 1 : Nat) : Int) - 1) := fun _ => by
          rcases Nat.eq_zero_or_pos i with h | h
          · subst h; rw [h0 rfl]; omega
          · rw [h1 h]; omega
        clear h0 h1
        generalize (i : Int) = k at *
        obtain ⟨dl2, e2⟩ := latest_in a b k x S' dl' ha0
        refine ⟨[some (.int a), some (.int b), some (.int (max x (k + a))), some (.int k), dl2], S', .inl ?_, rfl, _, _, _, rfl, fun h => absurd h (by omega), hc⟩
        simp [m_law_latest_b2, hr2, e2]
      · cases hd)
  rw [Src.items] at e
  have hl : (Src.its (rgD 0 (b + 1).toNat)).items.length = (b + 1).toNat := by simp
  rw [hl] at hx
  have h3 : x = a + b := by rw [hx.2 (by omega)]; omega
  subst h3
  simp [f_law_latest, runB, m_law_latest, hr, e, trim_self]
theorem span_le {a b c : Int} (S : Sto) (ha : -1000 ≤ a) (ha' : a ≤ 1000) (hb : -1000 ≤ b) (hb' : b ≤ 1000) (hc : c = max 0 (b - a) := by omega) : f_law_span [.int a, .int b] S = .ok (.int c) S := by
  rw [span_eq a b S ha ha' hb hb', hc]
theorem try_eq (a most : Int) (ha0 : 0 ≤ a) (ha : a ≤ 6) (hm : 0 ≤ most) (S : Sto) : f_law_least_by_trying [.int a, .int most] S = .ok (.int (max 0 (a - most))) S := by
  have hr : -4611686018427387904 ≤ a + 1 ∧ a + 1 < 4611686018427387904 := by omega
  obtain ⟨v, S', e, rfl, rfl⟩ := for_ret (src := .its (rgD 0 (a + 1).toNat)) (g := gN 2) (b := m_law_least_by_trying_b1) (σ := [some (.int a), some (.int most), none]) (S := S)
    (fun i σ S' => S' = S ∧ ∃ x, σ = [some (.int a), some (.int most), x]) (max 0 (a - most)).toNat (fun v S' => v = .int (max 0 (a - most)) ∧ S' = S) (by simp; omega)
    ⟨rfl, none, rfl⟩ (fun _ _ _ _ => trivial) (by
      intro i d σ S' hk hd p
      obtain ⟨rfl, x, rfl⟩ := p
      have hd : (rgD 0 (a + 1).toNat)[i]? = some d := hd
      rw [rgD_get] at hd
      split at hd
      · cases hd
        have hi : (i : Int) < a - most := by omega
        have hi0 : (0 : Int) ≤ i := by omega
        generalize (i : Int) = k at *
        have e2 : f_law_span [.int (k - a), .int 0] S' = .ok (.int (a - k)) S' := span_le S' (by omega) (by omega) (by omega) (by omega)
        have h5 : ¬ a - k ≤ most := by omega
        exact ⟨[some (.int a), some (.int most), some (.int k)], S', .inl (by simp [m_law_least_by_trying_b1, e2, h5]), rfl, _, rfl⟩
      · cases hd) (by
      intro d σ S' hd p
      obtain ⟨rfl, x, rfl⟩ := p
      have hd : (rgD 0 (a + 1).toNat)[(max 0 (a - most)).toNat]? = some d := hd
      rw [rgD_get, if_pos (by omega)] at hd
      cases hd
      have hi : (((max 0 (a - most)).toNat : Nat) : Int) = max 0 (a - most) := by omega
      rw [hi]
      generalize hk : max 0 (a - most) = k
      have e2 : f_law_span [.int (k - a), .int 0] S' = .ok (.int (a - k)) S' := span_le S' (by omega) (by omega) (by omega) (by omega)
      have h5 : a - k ≤ most := by omega
      exact ⟨.int k, S', by simp [m_law_least_by_trying_b1, e2, h5], rfl, rfl⟩)
  rw [Src.items] at e
  simp [f_law_least_by_trying, runB, m_law_least_by_trying, hr, e, trim_self]
theorem consts_eq (a b : Int) (ha0 : 0 ≤ a) (hb0 : 0 ≤ b) (ha : a ≤ 3) (hb : b ≤ 3) (t : Int) (h0 : 0 ≤ t) (h1 : t ≤ 24) (S : Sto) : f_law_constants_hold [.int a, .int b, .int t] S = .ok (.bl true) S := by
  have e1 := latest_eq a b ha0 hb0 ha hb S
  have e2 : f_law_span [.int 0, .int (a + b + (a + b) + (a + b) + 2 + 1)] S = .ok (.int (3 * (a + b) + 3)) S := span_le S (by omega) (by omega) (by omega) (by omega)
  have e3 : f_law_span [.int 0, .int t] S = .ok (.int t) S := span_le S (by omega) (by omega) (by omega) (by omega)
  have e4 : 3 * (a + b) + 2 = a + b + (a + b) + (a + b) + 2 := by omega
  have e5 : 3 * (a + b) + 2 + 1 = 3 * (a + b) + 3 := by omega
  simp [f_law_constants_hold, runB, m_law_constants_hold, e1, lateness_eq, wait_eq, hold_eq, frames_eq, just_eq, e2, e3, e4, e5, trim_self]
theorem least_holds_eq (a b : Int) (ha0 : 0 ≤ a) (hb0 : 0 ≤ b) (ha : a ≤ 3) (hb : b ≤ 3) (m : Int) (h0 : 0 ≤ m) (S : Sto) : f_law_least_holds [.int a, .int b, .int m] S = .ok (.bl true) S := by
  have e1 := latest_eq a b ha0 hb0 ha hb S
  have e2 := try_eq (a + b) m (by omega) (by omega) h0 S
  have e3 := least_eq a b m S
  generalize hk : max 0 (a + b - m) = k at *
  have e4 := again_eq a b k 0 S
  have e5 := again_eq a b (k - 1) 0 S
  have e6 : max 0 (a + b - k) ≤ m := by omega
  have e6' : ¬ m < max 0 (a + b - k) := by omega
  simp only [if_true] at e4 e5
  generalize hx : max 0 (a + b - k) = x at *
  generalize hy : max 0 (a + b - (k - 1)) = y at *
  by_cases h1 : k ≤ 3
  · by_cases h2 : k = 0
    · subst h2
      simp [f_law_least_holds, runB, m_law_least_holds, e1, e2, e3, e4, just_eq, e6', trim_self]
    · have h3 : ¬ 4 < k := by omega
      have h4 : m < y := by omega
      simp [f_law_least_holds, runB, m_law_least_holds, e1, e2, e3, e4, e5, just_eq, e6', trim_self, h1, h2, h3, h4]
  · have h2 : ¬ k = 0 := by omega
    by_cases h3 : 4 < k
    · simp [f_law_least_holds, runB, m_law_least_holds, e1, e2, e3, e4, e5, just_eq, e6', trim_self, h1, h2, h3]
    · have h4 : m < y := by omega
      simp [f_law_least_holds, runB, m_law_least_holds, e1, e2, e3, e4, e5, just_eq, e6', trim_self, h1, h2, h3, h4]
theorem budget_loop (a b lag falls seats R W U : Int) (F : Int) (hs : 0 ≤ seats) (e5 : ∀ S, f_law_span [.int (100 - W), .int (100 + lag + 1)] S = .ok (.int U) S) (S : Sto) :
    ∃ sl, forL (.its (rgD 0 seats.toNat)) (gN 10) m_law_budgets_hold_b1 (rgD 0 seats.toNat) [some (.int a), some (.int b), some (.int lag), some (.int falls), some (.int seats), some (.int R), some (.int W), some (.int 100), some (.int F), some (.int 0), none] S
      = .nx [some (.int a), some (.int b), some (.int lag), some (.int falls), some (.int seats), some (.int R), some (.int W), some (.int 100), some (.int F), some (.int (seats * U)), sl] S := by
  obtain ⟨σ', S', e, rfl, sl, rfl⟩ := for_rgZ (lo := 0) (n := seats.toNat) (g := gN 10) (b := m_law_budgets_hold_b1) (σ := [some (.int a), some (.int b), some (.int lag), some (.int falls), some (.int seats), some (.int R), some (.int W), some (.int 100), some (.int F), some (.int 0), none]) (S := S)
      (fun k σ S' => S' = S ∧ ∃ sl, σ = [some (.int a), some (.int b), some (.int lag), some (.int falls), some (.int seats), some (.int R), some (.int W), some (.int 100), some (.int F), some (.int (k * U)), sl])
      ⟨rfl, none, by simp⟩ (by
        intro k σ S' h0 h1 p
        obtain ⟨rfl, sl, rfl⟩ := p
        exact ⟨[some (.int a), some (.int b), some (.int lag), some (.int falls), some (.int seats), some (.int R), some (.int W), some (.int 100), some (.int F), some (.int ((k + 1) * U)), some (.int (0 + k))], S', .inl (by simp [m_law_budgets_hold_b1, e5, Int.add_mul]), rfl, _, rfl⟩)
  refine ⟨sl, ?_⟩
  rw [e]
  have : ((seats.toNat : Nat) : Int) = seats := by omega
  rw [this]
theorem budgets_eq (a b lag falls seats : Int) (ha0 : 0 ≤ a) (hb0 : 0 ≤ b) (ha : a ≤ 3) (hb : b ≤ 3) (hl0 : 0 ≤ lag) (hl : lag ≤ 3) (hf : 0 ≤ falls) (hs0 : 0 ≤ seats) (hs : seats ≤ 4) (S : Sto) :
    f_law_budgets_hold [.int a, .int b, .int lag, .int falls, .int seats] S = .ok (.bl true) S := by
  have e1 := latest_eq a b ha0 hb0 ha hb S
  have e2 := again_eq a b lag falls S
  have hr : -4611686018427387904 ≤ seats ∧ seats < 4611686018427387904 := by omega
  have hw : -18446744073709551616 < seats ∧ seats < 18446744073709551616 := by omega
  have e3 := words_eq seats a b lag hw S
  have e4 := marks_eq a b S
  obtain ⟨W, hW⟩ : ∃ W, a + b + (a + b) + (a + b) + 2 = W := ⟨_, rfl⟩
  obtain ⟨U, hU⟩ : ∃ U, U = W + lag + 1 := ⟨_, rfl⟩
  have e5 : ∀ S, f_law_span [.int (100 - W), .int (100 + lag + 1)] S = .ok (.int U) S := fun S => span_le S (by omega) (by omega) (by omega) (by omega)
  have e6 : f_law_span [.int (100 - 2 * W), .int 101] S = .ok (.int (2 * W + 1)) S := span_le S (by omega) (by omega) (by omega) (by omega)
  have h7 : 2 * (3 * (a + b) + 2) + 1 = 2 * W + 1 := by omega
  have h8 : 3 * (a + b) + 2 + lag + 1 = U := by omega
  have h8' : 3 * (a + b) + 2 = W := by omega
  rw [h8] at e3
  rw [h7] at e4
  rw [h8'] at e2
  by_cases h : falls = 0
  · have hf' : ¬ 0 < falls := by omega
    rw [if_pos h] at e2
    obtain ⟨x, hx⟩ : ∃ x, max 0 (a + b - lag) = x := ⟨_, rfl⟩
    rw [hx] at e2
    have e9 : f_law_span [.int (100 + lag - (a + b)), .int 100] S = .ok (.int x) S := span_le S (by omega) (by omega) (by omega) (by omega)
    obtain ⟨sl, el⟩ := budget_loop a b lag falls seats (a + b) W U (100 + lag - (a + b)) hs0 e5 S
    simp [f_law_budgets_hold, runB, m_law_budgets_hold, e1, hW, hf', e2, e9, just_eq, hr, el, e3, e4, e6, trim_self]
  · have hf' : 0 < falls := by omega
    rw [if_neg h] at e2
    obtain ⟨x, hx⟩ : ∃ x, max 0 (W - lag) = x := ⟨_, rfl⟩
    rw [hx] at e2
    have e9 : f_law_span [.int (100 + lag - W), .int 100] S = .ok (.int x) S := span_le S (by omega) (by omega) (by omega) (by omega)
    obtain ⟨sl, el⟩ := budget_loop a b lag falls seats (a + b) W U (100 + lag - W) hs0 e5 S
    simp [f_law_budgets_hold, runB, m_law_budgets_hold, e1, hW, hf', e2, e9, just_eq, hr, el, e3, e4, e6, trim_self]
theorem mem03 {x : Int} (h : x ∈ [(0 : Int), 1, 2, 3, 0, 3]) : 0 ≤ x ∧ x ≤ 3 := by
  simp only [List.mem_cons, List.not_mem_nil, or_false] at h
  omega
theorem mem24 {x : Int} (h : x ∈ [(0 : Int), 1, 2, 3, 4, 5, 6, 7, 24]) : 0 ≤ x := by
  simp only [List.mem_cons, List.not_mem_nil, or_false] at h
  omega
theorem turn_eq (ns : List Int) (p r s : Int) (J : Sto) (t : D) (x y : Option D) (hp : 0 ≤ p) :
    ∃ x' y' p' r' s' J', 0 ≤ p' ∧ mlaw_b1 [none, some (.loc 1), some t, x, y] (dst ns p r s ++ J) = .nx [none, some (.loc 1), some t, x', y'] (dst ns p' r' s' ++ J') := by
  obtain ⟨a, p1, r1, s1, ma, hp1, e1⟩ := pick_eq ns p r s J [0, 1, 2, 3, 0, 3] (by decide) (by decide) hp
  obtain ⟨b, p2, r2, s2, mb, hp2, e2⟩ := pick_eq ns p1 r1 s1 (J ++ [.lst ([(0 : Int), 1, 2, 3, 0, 3].map D.int)]) [0, 1, 2, 3, 0, 3] (by decide) (by decide) hp1
  obtain ⟨k, p3, r3, s3, hk0, hk1, hp3, e3⟩ := draw_eq ns p2 r2 s2 (J ++ [.lst ([(0 : Int), 1, 2, 3, 0, 3].map D.int)] ++ [.lst ([(0 : Int), 1, 2, 3, 0, 3].map D.int)]) 24 (by omega) (by omega) hp2
  obtain ⟨l, p4, r4, s4, hl0, hl1, hp4, e4⟩ := draw_eq ns p3 r3 s3 (J ++ [.lst ([(0 : Int), 1, 2, 3, 0, 3].map D.int)] ++ [.lst ([(0 : Int), 1, 2, 3, 0, 3].map D.int)]) 4 (by omega) (by omega) hp3
  obtain ⟨f, p5, r5, s5, hf0, hf1, hp5, e5⟩ := draw_eq ns p4 r4 s4 (J ++ [.lst ([(0 : Int), 1, 2, 3, 0, 3].map D.int)] ++ [.lst ([(0 : Int), 1, 2, 3, 0, 3].map D.int)]) 3 (by omega) (by omega) hp4
  obtain ⟨q, p6, r6, s6, hq0, hq1, hp6, e6⟩ := draw_eq ns p5 r5 s5 (J ++ [.lst ([(0 : Int), 1, 2, 3, 0, 3].map D.int)] ++ [.lst ([(0 : Int), 1, 2, 3, 0, 3].map D.int)]) 4 (by omega) (by omega) hp5
  obtain ⟨m, p7, r7, s7, mm, hp7, e7⟩ := pick_eq ns p6 r6 s6 (J ++ [.lst ([(0 : Int), 1, 2, 3, 0, 3].map D.int)] ++ [.lst ([(0 : Int), 1, 2, 3, 0, 3].map D.int)]) [0, 1, 2, 3, 4, 5, 6, 7, 24] (by decide) (by decide) hp6
  have ha := mem03 ma
  have hb := mem03 mb
  have hm := mem24 mm
  have c1 := fun S => consts_eq a b ha.1 hb.1 ha.2 hb.2 (1 + k) (by omega) (by omega) S
  have c2 := fun S => budgets_eq a b l f (1 + q) ha.1 hb.1 ha.2 hb.2 hl0 (by omega) hf0 (by omega) (by omega) S
  have c3 := fun S => least_holds_eq a b ha.1 hb.1 ha.2 hb.2 m hm S
  simp only [List.map_cons, List.map_nil, List.append_assoc, List.cons_append, List.nil_append, List.length_append, List.length_cons, List.length_nil, Nat.reduceAdd] at e1 e2 e3 e4 e5 e6 e7
  refine ⟨some (.int a), some (.int b), p7, r7, s7, ?J, hp7, ?e⟩
  case e => simp [mlaw_b1, sizeLine_eq, e1, e2, e3, e4, e5, e6, e7, c1, c2, c3]; rfl
theorem law_math : ∀ ns : List Int, ns.length ≤ 63 → ∃ S', mlaw (none :: some (.loc 1) :: List.replicate (Nlaw.length - 2) none) (begSto ns) = .ret (.bl true) S' := fun ns _ => by
  obtain ⟨σ', S', e, x, y, t, p, r, s, J, hp, rfl, rfl⟩ := for_rgZ (lo := 0) (n := 8) (g := gN 2) (b := mlaw_b1) (σ := [none, some (.loc 1), none, none, none]) (S := begSto ns)
      (fun k σ S' => ∃ x y t p r s J, 0 ≤ p ∧ σ = [none, some (.loc 1), t, x, y] ∧ S' = dst ns p r s ++ J)
      ⟨none, none, none, 0, 0, 11, [], by omega, rfl, rfl⟩ (by
        intro k σ S' h0 h1 pr
        obtain ⟨x, y, t, p, r, s, J, hp, rfl, rfl⟩ := pr
        obtain ⟨x', y', p', r', s', J', hp', e⟩ := turn_eq ns p r s J (.int (0 + k)) x y hp
        exact ⟨_, _, .inl (by simp only [gN, R.fl_ok]; exact e), x', y', _, p', r', s', J', hp', rfl, rfl⟩)
  refine ⟨dst ns p r s ++ J, ?_⟩
  have es : (none :: some (D.loc 1) :: List.replicate (Nlaw.length - 2) none : Sd) = [none, some (.loc 1), none, none, none] := rfl
  rw [es]
  simp [mlaw, e]
end G
set_option Elab.async false
set_option linter.all false
set_option maxRecDepth 100000
set_option maxHeartbeats 0
namespace G
open PySem PySem.Spec PyProof.Rows L2 FL
def ddlateness : He.DefD := ⟨("lateness", none), "lateness", "lateness", defArgs slateness, defBody slateness, defScope slateness, [], []⟩
def ddwait : He.DefD := ⟨("wait", none), "wait", "wait", defArgs swait, defBody swait, defScope swait, [], []⟩
def ddhold : He.DefD := ⟨("hold", none), "hold", "hold", defArgs shold, defBody shold, defScope shold, [], []⟩
def ddframes_of : He.DefD := ⟨("frames_of", none), "frames_of", "frames_of", defArgs sframes_of, defBody sframes_of, defScope sframes_of, [], []⟩
def ddmost_again : He.DefD := ⟨("most_again", none), "most_again", "most_again", defArgs smost_again, defBody smost_again, defScope smost_again, [], []⟩
def ddleast_lag : He.DefD := ⟨("least_lag", none), "least_lag", "least_lag", defArgs sleast_lag, defBody sleast_lag, defScope sleast_lag, [], []⟩
def ddmost_words : He.DefD := ⟨("most_words", none), "most_words", "most_words", defArgs smost_words, defBody smost_words, defScope smost_words, [], []⟩
def ddmost_marks : He.DefD := ⟨("most_marks", none), "most_marks", "most_marks", defArgs smost_marks, defBody smost_marks, defScope smost_marks, [], []⟩
def dd_law_draw : He.DefD := ⟨("_law_draw", none), "_law_draw", "_law_draw", defArgs s_law_draw, defBody s_law_draw, defScope s_law_draw, [], []⟩
def dd_law_pick : He.DefD := ⟨("_law_pick", none), "_law_pick", "_law_pick", defArgs s_law_pick, defBody s_law_pick, defScope s_law_pick, [], []⟩
def dd_law_is_int : He.DefD := ⟨("_law_is_int", none), "_law_is_int", "_law_is_int", defArgs s_law_is_int, defBody s_law_is_int, defScope s_law_is_int, [], []⟩
def dd_law_latest : He.DefD := ⟨("_law_latest", none), "_law_latest", "_law_latest", defArgs s_law_latest, defBody s_law_latest, defScope s_law_latest, [], []⟩
def dd_law_span : He.DefD := ⟨("_law_span", none), "_law_span", "_law_span", defArgs s_law_span, defBody s_law_span, defScope s_law_span, [], []⟩
def dd_law_is_just : He.DefD := ⟨("_law_is_just", none), "_law_is_just", "_law_is_just", defArgs s_law_is_just, defBody s_law_is_just, defScope s_law_is_just, [], []⟩
def dd_law_least_by_trying : He.DefD := ⟨("_law_least_by_trying", none), "_law_least_by_trying", "_law_least_by_trying", defArgs s_law_least_by_trying, defBody s_law_least_by_trying, defScope s_law_least_by_trying, [], []⟩
def dd_law_constants_hold : He.DefD := ⟨("_law_constants_hold", none), "_law_constants_hold", "_law_constants_hold", defArgs s_law_constants_hold, defBody s_law_constants_hold, defScope s_law_constants_hold, [], []⟩
def dd_law_budgets_hold : He.DefD := ⟨("_law_budgets_hold", none), "_law_budgets_hold", "_law_budgets_hold", defArgs s_law_budgets_hold, defBody s_law_budgets_hold, defScope s_law_budgets_hold, [], []⟩
def dd_law_least_holds : He.DefD := ⟨("_law_least_holds", none), "_law_least_holds", "_law_least_holds", defArgs s_law_least_holds, defBody s_law_least_holds, defScope s_law_least_holds, [], []⟩
def dd_law_begin : He.DefD := ⟨("_law_begin", none), "_law_begin", "_law_begin", defArgs s_law_begin, defBody s_law_begin, defScope s_law_begin, [], []⟩
def ddlaw : He.DefD := ⟨("law", none), "law", "law", defArgs slaw, defBody slaw, defScope slaw, [], []⟩
def fn : List He.DefD := [ddlateness, ddwait, ddhold, ddframes_of, ddmost_again, ddleast_lag, ddmost_words, ddmost_marks, dd_law_draw, dd_law_pick, dd_law_is_int, dd_law_latest, dd_law_span, dd_law_is_just, dd_law_least_by_trying, dd_law_constants_hold, dd_law_budgets_hold, dd_law_least_holds, dd_law_begin, ddlaw]
def fa : List He.Fa := [.glo "lateness", .glo "wait", .glo "hold", .glo "frames_of", .glo "most_again", .glo "least_lag", .glo "most_words", .glo "most_marks", .glo "_law_draw", .glo "_law_pick", .glo "_law_is_int", .glo "_law_latest", .glo "_law_span", .glo "_law_is_just", .glo "_law_least_by_trying", .glo "_law_constants_hold", .glo "_law_budgets_hold", .glo "_law_least_holds", .glo "_law_begin", .glo "law", .free "abs", .free "bool", .free "int", .free "isinstance", .free "len", .free "max", .free "range"]
abbrev R : PySem.W.OpenRow := PySem.W.OpenLaw.row PySem.Challenge.rw_judgedplay_k78_bounds
abbrev hk : PySem.W.Hook := He.hookD 4 fa fn
def ob (s : PySem.W.SharedT) : He.AlD := He.obsDG 4 fa fn (HandSHeadRun.getT s)
theorem ob_eq (s : PySem.W.SharedT) : ob s = hk.obs s.abs := He.obsDG_eq (HandSHeadRun.getT_eq s)
def loose : List PySem.Str := (["lateness", "wait", "hold", "frames_of", "most_again", "least_lag", "most_words", "most_marks", "_law_begin", "_law_draw", "_law_pick", "_law_is_int", "_law_latest", "_law_span", "_law_is_just", "_law_least_by_trying", "_law_constants_hold", "_law_budgets_hold", "_law_least_holds"] : List PySem.Str)
theorem run (w : World) : HandSHeadRun.RunEq R (PySem.W.view R.prog [21]) hk ob 1480 loose w := by
  intro os
  kernel_rfl
theorem facts {P : Program} {w : World} {K : PySem.W.Frag} {h : Heap} {mg : Str → Option Value} {f : Addr} (X : K.In h) (G : h.Ns mainGlobals mg) (hfa : mg ("law" : Str) = some (.ref f)) (c : He.SaysD fa fn K) :
    ∃ fd : FuncData, (∀ (s : Shared) (v : Value), BindsTo s fd ⟨[v], []⟩ [("script", v)]) ∧ ∀ base : Heap, K.In base → base.Ns mainGlobals mg → FnOk P w K mg base CX0 4 f fd ["script"] (spLaw K) := by
  obtain ⟨fdlateness, Flateness⟩ := c.def_ 0 (d := ddlateness) rfl
  have glateness := He.glo_ok X G (c.fact 0 (f := .glo "lateness") rfl)
  obtain ⟨fdwait, Fwait⟩ := c.def_ 1 (d := ddwait) rfl
  have gwait := He.glo_ok X G (c.fact 1 (f := .glo "wait") rfl)
  obtain ⟨fdhold, Fhold⟩ := c.def_ 2 (d := ddhold) rfl
  have ghold := He.glo_ok X G (c.fact 2 (f := .glo "hold") rfl)
  obtain ⟨fdframes_of, Fframes_of⟩ := c.def_ 3 (d := ddframes_of) rfl
  have gframes_of := He.glo_ok X G (c.fact 3 (f := .glo "frames_of") rfl)
  obtain ⟨fdmost_again, Fmost_again⟩ := c.def_ 4 (d := ddmost_again) rfl
  have gmost_again := He.glo_ok X G (c.fact 4 (f := .glo "most_again") rfl)
  obtain ⟨fdleast_lag, Fleast_lag⟩ := c.def_ 5 (d := ddleast_lag) rfl
  have gleast_lag := He.glo_ok X G (c.fact 5 (f := .glo "least_lag") rfl)
  obtain ⟨fdmost_words, Fmost_words⟩ := c.def_ 6 (d := ddmost_words) rfl
  have gmost_words := He.glo_ok X G (c.fact 6 (f := .glo "most_words") rfl)
  obtain ⟨fdmost_marks, Fmost_marks⟩ := c.def_ 7 (d := ddmost_marks) rfl
  have gmost_marks := He.glo_ok X G (c.fact 7 (f := .glo "most_marks") rfl)
  obtain ⟨fd_law_draw, F_law_draw⟩ := c.def_ 8 (d := dd_law_draw) rfl
  have g_law_draw := He.glo_ok X G (c.fact 8 (f := .glo "_law_draw") rfl)
  obtain ⟨fd_law_pick, F_law_pick⟩ := c.def_ 9 (d := dd_law_pick) rfl
  have g_law_pick := He.glo_ok X G (c.fact 9 (f := .glo "_law_pick") rfl)
  obtain ⟨fd_law_is_int, F_law_is_int⟩ := c.def_ 10 (d := dd_law_is_int) rfl
  have g_law_is_int := He.glo_ok X G (c.fact 10 (f := .glo "_law_is_int") rfl)
  obtain ⟨fd_law_latest, F_law_latest⟩ := c.def_ 11 (d := dd_law_latest) rfl
  have g_law_latest := He.glo_ok X G (c.fact 11 (f := .glo "_law_latest") rfl)
  obtain ⟨fd_law_span, F_law_span⟩ := c.def_ 12 (d := dd_law_span) rfl
  have g_law_span := He.glo_ok X G (c.fact 12 (f := .glo "_law_span") rfl)
  obtain ⟨fd_law_is_just, F_law_is_just⟩ := c.def_ 13 (d := dd_law_is_just) rfl
  have g_law_is_just := He.glo_ok X G (c.fact 13 (f := .glo "_law_is_just") rfl)
  obtain ⟨fd_law_least_by_trying, F_law_least_by_trying⟩ := c.def_ 14 (d := dd_law_least_by_trying) rfl
  have g_law_least_by_trying := He.glo_ok X G (c.fact 14 (f := .glo "_law_least_by_trying") rfl)
  obtain ⟨fd_law_constants_hold, F_law_constants_hold⟩ := c.def_ 15 (d := dd_law_constants_hold) rfl
  have g_law_constants_hold := He.glo_ok X G (c.fact 15 (f := .glo "_law_constants_hold") rfl)
  obtain ⟨fd_law_budgets_hold, F_law_budgets_hold⟩ := c.def_ 16 (d := dd_law_budgets_hold) rfl
  have g_law_budgets_hold := He.glo_ok X G (c.fact 16 (f := .glo "_law_budgets_hold") rfl)
  obtain ⟨fd_law_least_holds, F_law_least_holds⟩ := c.def_ 17 (d := dd_law_least_holds) rfl
  have g_law_least_holds := He.glo_ok X G (c.fact 17 (f := .glo "_law_least_holds") rfl)
  obtain ⟨fd_law_begin, F_law_begin⟩ := c.def_ 18 (d := dd_law_begin) rfl
  have g_law_begin := He.glo_ok X G (c.fact 18 (f := .glo "_law_begin") rfl)
  obtain ⟨fdlaw, Flaw⟩ := c.def_ 19 (d := ddlaw) rfl
  have glaw := He.glo_ok X G (c.fact 19 (f := .glo "law") rfl)
  have B : Bi mg := ⟨He.free_ok X G (c.fact 20 (f := .free "abs") rfl), He.free_ok X G (c.fact 21 (f := .free "bool") rfl), He.free_ok X G (c.fact 22 (f := .free "int") rfl), He.free_ok X G (c.fact 23 (f := .free "isinstance") rfl), He.free_ok X G (c.fact 24 (f := .free "len") rfl), He.free_ok X G (c.fact 25 (f := .free "max") rfl), He.free_ok X G (c.fact 26 (f := .free "range") rfl)⟩
  have e := hfa.symm.trans glaw
  cases e
  have b := FunD.bindsA (ps := ["script"]) Flaw fun _ _ _ _ _ _ us hl => match us, hl with | [_], _ => rfl
  refine ⟨fdlaw, fun s v => b s [v] rfl, fun base _ _ => ?_⟩
  have Dlateness := oklateness (P := P) (w := w) (base := base) B Flateness glateness 
  have Dwait := okwait (P := P) (w := w) (base := base) B Fwait gwait 
  have Dhold := okhold (P := P) (w := w) (base := base) B Fhold ghold Dwait
  have Dframes_of := okframes_of (P := P) (w := w) (base := base) B Fframes_of gframes_of Dwait
  have Dmost_again := okmost_again (P := P) (w := w) (base := base) B Fmost_again gmost_again Dwait
  have Dleast_lag := okleast_lag (P := P) (w := w) (base := base) B Fleast_lag gleast_lag 
  have Dmost_words := okmost_words (P := P) (w := w) (base := base) B Fmost_words gmost_words Dwait
  have Dmost_marks := okmost_marks (P := P) (w := w) (base := base) B Fmost_marks gmost_marks Dwait
  have D_law_draw := ok_law_draw (P := P) (w := w) (base := base) B F_law_draw g_law_draw 
  have D_law_pick := ok_law_pick (P := P) (w := w) (base := base) B F_law_pick g_law_pick D_law_draw
  have D_law_is_int := ok_law_is_int (P := P) (w := w) (base := base) B F_law_is_int g_law_is_int 
  have D_law_latest := ok_law_latest (P := P) (w := w) (base := base) B F_law_latest g_law_latest 
  have D_law_span := ok_law_span (P := P) (w := w) (base := base) B F_law_span g_law_span 
  have D_law_is_just := ok_law_is_just (P := P) (w := w) (base := base) B F_law_is_just g_law_is_just D_law_is_int
  have D_law_least_by_trying := ok_law_least_by_trying (P := P) (w := w) (base := base) B F_law_least_by_trying g_law_least_by_trying D_law_span
  have D_law_constants_hold := ok_law_constants_hold (P := P) (w := w) (base := base) B F_law_constants_hold g_law_constants_hold D_law_latest D_law_is_just Dlateness Dwait D_law_span Dhold Dframes_of
  have D_law_budgets_hold := ok_law_budgets_hold (P := P) (w := w) (base := base) B F_law_budgets_hold g_law_budgets_hold D_law_latest D_law_is_just D_law_span Dmost_again Dmost_words Dmost_marks
  have D_law_least_holds := ok_law_least_holds (P := P) (w := w) (base := base) B F_law_least_holds g_law_least_holds D_law_least_by_trying D_law_latest D_law_is_just Dleast_lag Dmost_again
  exact oklaw B Flaw F_law_begin g_law_begin D_law_pick D_law_constants_hold D_law_draw D_law_budgets_hold D_law_least_holds law_math
end G
open PySem PySem.W PySem.Calls PyProof.Rows
set_option maxRecDepth 100000 in
set_option maxHeartbeats 0 in
theorem PySem.Challenge.cw_judgedplay_k78_bounds_holds : PySem.Challenge.rw_judgedplay_k78_bounds.Holds := by
  w_on; o_law
  refine HandSHeadRun.head_any (r := OpenLaw.row PySem.Challenge.rw_judgedplay_k78_bounds) (q := view (OpenLaw.row PySem.Challenge.rw_judgedplay_k78_bounds).prog [21]) (H := G.hk) (ob := G.ob) (M := 1480) (loose := G.loose) (d := HandSHeadRun.topDef (OpenLaw.row PySem.Challenge.rw_judgedplay_k78_bounds).prog 21) (kwd := []) G.ob_eq
    (by kernel_rfl) (fun s => by kernel_rfl) G.run (by kernel_rfl) (by kernel_rfl) (by kernel_rfl) (by rfl) (by first | assumption | decide +kernel) (by decide +kernel) ⟨rfl, rfl, rfl, rfl, rfl, by decide +kernel⟩ ?hw ?hc
  case hw => w_witness2
  case hc =>
    refine L2.walk_ofE (l := PySem.Challenge.rw_judgedplay_k78_bounds) (n := 63) (k := 4) (x := "script") (CX := L2.CX0) rfl (by decide) (by kernel_rfl) ⟨rfl, by decide, by decide⟩ ?F (fun _ _ _ _ z => z)
    intro w mg fa h Y Gn hmg0
    obtain ⟨K, KX, c⟩ := Y
    have hmg : mg ("law" : PySem.Str) = some (.ref fa) := by
      have e : (HandSHeadRun.topDef (OpenLaw.row PySem.Challenge.rw_judgedplay_k78_bounds).prog 21).name = ("law" : PySem.Str) := by kernel_rfl
      rw [← e]
      exact hmg0
    obtain ⟨fd, hb, hF⟩ := G.facts (P := (PySem.Challenge.rw_judgedplay_k78_bounds).prog) (w := w) KX Gn hmg c
    exact ⟨K, fd, FL.spLaw K, KX, hb, fun H a ns hl _ hS => ⟨a, ns, rfl, hS, hl, fun _ => rfl⟩, hF⟩
