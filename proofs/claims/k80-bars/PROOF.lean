import PyProof.Rows.All
import Wide.All
import OpenK.AllK
import Wide.FinOn
import HandS.ForMost
import HandS.More
import HandS.IsInst
import HandS.TupAny
import HandS.Conv
import HandS.SortRule
import HandS.SortInts
import HandS.Flow
import HandS.TupLen
import HandS.WordsDict
import HandS.Iter
import HandS.Defaults
import HandS.HeadHook2
import HandS.Words
import KE.DataMinMax
import KE.LtData
import HandS.SortOrd
import KE.KDictSum
import HandS.Head0
import HandS.Head1
import HandS.Head2
import HandS.HeadEnd
import PySem.Challenge.RW_judgedplay_k80_bars_judged
set_option Elab.async false
set_option linter.all false
set_option maxRecDepth 100000
set_option maxHeartbeats 4000000
/-! FL1: data D, objects O, stores, results R; how a heap bears a store (Sim), how it grows (Ext); functional readings tG. -/
namespace FL
open PySem PySem.Spec PyProof.Rows L2
/-- the classes: where each stands, the names of its fields in the order in which __init__ lays them -/
class KMap where
  κ : Nat → Addr
  fl : Nat → List Str
variable [KMap]

/-- data: what a name may hold. loc n: the n-th mutable object of the store -/
inductive D where
  | non | bl (b : Bool) | int (i : Int) | str (x : Str) | ty (n : String) | tup (xs : List D) | loc (n : Nat)
/-- mutable objects -/
inductive O where
  | lst (xs : List D) | dK (kvs : List (Key × D)) | dT (kvs : List (List Key × D)) | ins (C : Nat) (ds : List D)
  /-- a dict that is walked: read, not written -/
  | fK (kvs : List (Key × D)) | fT (kvs : List (List Key × D))
abbrev Sto := List O
abbrev Sd := List (Option D)
/-- results: a value and the store behind it; an exception (its class, the fields of its own dict); stuck -/
inductive R (α : Type) where
  | ok (a : α) (S : Sto) | exc (c : Value) (fs : Option (List (Str × D))) (S : Sto) | bad
def R.bind {α β : Type} (r : R α) (k : α → Sto → R β) : R β := match r with
  | .ok a S => k a S
  | .exc c fs S => .exc c fs S
  | .bad => .bad
@[simp] theorem R.bind_ok {α β : Type} (a : α) (S : Sto) (k : α → Sto → R β) : (R.ok a S).bind k = k a S := rfl
@[simp] theorem R.bind_exc {α β : Type} (c fs S) (k : α → Sto → R β) : (R.exc c fs S).bind k = .exc c fs S := rfl
@[simp] theorem R.bind_bad {α β : Type} (k : α → Sto → R β) : (R.bad).bind k = .bad := rfl

/-- a branch; its ways are not looked into ahead of it -/
def brK {α β : Type} (c : Bool) (a b : Sd → α → β) (σ : Sd) (S : α) : β := match c with
  | true => a σ S
  | false => b σ S
@[simp] theorem brK_true {α β : Type} (a b : Sd → α → β) (σ S) : brK true a b σ S = a σ S := rfl
@[simp] theorem brK_false {α β : Type} (a b : Sd → α → β) (σ S) : brK false a b σ S = b σ S := rfl

mutual
inductive Rep (H : Hp) (ρ : List Addr) : V → D → Prop
  | non : Rep H ρ .non .non
  | bl (b : Bool) : Rep H ρ (.bl b) (.bl b)
  | int (i : Int) : Rep H ρ (.int i) (.int i)
  | str (x : Str) : Rep H ρ (.str x) (.str x)
  | ty (n : String) : Rep H ρ (.ty n) (.ty n)
  | tup {a : Addr} {xs : List V} {ds : List D} : H a = some (.tup xs) → Reps H ρ xs ds → Rep H ρ (.ref a) (.tup ds)
  | loc {a : Addr} {n : Nat} : ρ[n]? = some a → Rep H ρ (.ref a) (.loc n)
inductive Reps (H : Hp) (ρ : List Addr) : List V → List D → Prop
  | nil : Reps H ρ [] []
  | cons {v : V} {vs : List V} {d : D} {ds : List D} : Rep H ρ v d → Reps H ρ vs ds → Reps H ρ (v :: vs) (d :: ds)
end
def RepF {κ : Type} (H : Hp) (ρ : List Addr) : List (κ × V) → List (κ × D) → Prop := Paired fun p q => p.1 = q.1 ∧ Rep H ρ p.2 q.2
def RepO (H : Hp) (ρ : List Addr) (a : Addr) : O → Prop
  | .lst ds => ∃ xs, H a = some (.lst xs) ∧ Reps H ρ xs ds
  | .dK kvs => ∃ ks, H a = some (.dK ks) ∧ RepF H ρ ks kvs
  | .dT kvs => ∃ ks, H a = some (.dT ks) ∧ RepF H ρ ks kvs
  | .ins C ds => ∃ dx gs, H a = some (.ins (KMap.κ C) dx gs) ∧ gs.map (·.1) = (KMap.fl C).take ds.length ∧ Reps H ρ (gs.map (·.2)) ds
  | .fK kvs => ∃ od ks, H a = some (.frz od (.dK ks)) ∧ RepF H ρ ks kvs
  | .fT kvs => ∃ od ks, H a = some (.frz od (.dT ks)) ∧ RepF H ρ ks kvs
def isM : HO → Bool
  | .lst _ => true | .dK _ => true | .dT _ => true | .ins _ _ _ => true | .frz _ _ => true | _ => false
theorem RepO.m {H : Hp} {ρ : List Addr} {a : Addr} {o : O} (h : RepO H ρ a o) : ∃ u, H a = some u ∧ isM u = true := by
  cases o with
  | lst _ => obtain ⟨xs, e, _⟩ := h; exact ⟨_, e, rfl⟩
  | dK _ => obtain ⟨xs, e, _⟩ := h; exact ⟨_, e, rfl⟩
  | dT _ => obtain ⟨xs, e, _⟩ := h; exact ⟨_, e, rfl⟩
  | ins _ _ => obtain ⟨dx, xs, e, _⟩ := h; exact ⟨_, e, rfl⟩
  | fK _ => obtain ⟨dx, xs, e, _⟩ := h; exact ⟨_, e, rfl⟩
  | fT _ => obtain ⟨dx, xs, e, _⟩ := h; exact ⟨_, e, rfl⟩

structure Ext (ρ : List Addr) (H : Hp) (ρ' : List Addr) (H' : Hp) : Prop where
  pre : ρ <+: ρ'
  new : ∀ b ∈ ρ', b ∉ ρ → H b = none
  fr : ∀ b o, H b = some o → b ∉ ρ → H' b = some o
  fz : ∀ b o u, H b = some (.frz o u) → H' b = some (.frz o u)
structure Sim (ρ : List Addr) (S : Sto) (H : Hp) : Prop where
  len : ρ.length = S.length
  nd : ρ.Nodup
  at_ : ∀ (n : Nat) (o : O), S[n]? = some o → ∃ a, ρ[n]? = some a ∧ RepO H ρ a o
theorem Ext.refl {ρ H} : Ext ρ H ρ H := ⟨List.prefix_refl _, fun _ h n => absurd h n, fun _ _ h _ => h, fun _ _ _ h => h⟩
theorem Ext.trans {ρ ρ1 ρ2 H H1 H2} (a : Ext ρ H ρ1 H1) (b : Ext ρ1 H1 ρ2 H2) : Ext ρ H ρ2 H2 := by
  have new : ∀ c ∈ ρ2, c ∉ ρ → H c = none := fun c h n => by
    by_cases h1 : c ∈ ρ1
    · exact a.new c h1 n
    · have e := b.new c h h1
      cases q : H c with
      | none => rfl
      | some o => rw [a.fr c o q n] at e; cases e
  refine ⟨a.pre.trans b.pre, new, fun c o h n => ?_, fun c o u h => b.fz c o u (a.fz c o u h)⟩
  refine b.fr c o (a.fr c o h n) fun h1 => ?_
  rw [a.new c h1 n] at h; cases h
theorem prefix_get {α : Type} {l l' : List α} (h : l <+: l') {n : Nat} {a : α} (e : l[n]? = some a) : l'[n]? = some a := by
  obtain ⟨t, rfl⟩ := h
  have hn : n < l.length := by
    rcases Nat.lt_or_ge n l.length with h | h
    · exact h
    · rw [List.getElem?_eq_none h] at e; cases e
  rw [List.getElem?_append_left hn]; exact e
theorem Sim.mem {ρ S H b} (s : Sim ρ S H) (hb : b ∈ ρ) : ∃ u, H b = some u ∧ isM u = true := by
  obtain ⟨n, hn, rfl⟩ := List.getElem_of_mem hb
  have hS : n < S.length := by rw [← s.len]; exact hn
  obtain ⟨a, e, r⟩ := s.at_ n _ (List.getElem?_eq_getElem hS)
  rw [List.getElem?_eq_getElem hn] at e
  cases e
  exact r.m
theorem Sim.nmem {ρ S H b o} (s : Sim ρ S H) (e : H b = some o) (hm : isM o = false) : b ∉ ρ := fun hb => by
  obtain ⟨u, e1, e2⟩ := s.mem hb
  rw [e] at e1; cases e1; rw [hm] at e2; cases e2
theorem Sim.fresh {ρ S H b} (s : Sim ρ S H) (e : H b = none) : b ∉ ρ := fun hb => by
  obtain ⟨u, e1, e2⟩ := s.mem hb
  rw [e] at e1; cases e1
mutual
theorem Rep.mono {ρ ρ' H H'} (hp : ρ <+: ρ') (ht : ∀ a xs, H a = some (.tup xs) → H' a = some (.tup xs)) : ∀ {v d}, Rep H ρ v d → Rep H' ρ' v d
  | _, _, .non => .non
  | _, _, .bl b => .bl b
  | _, _, .int i => .int i
  | _, _, .str i => .str i
  | _, _, .ty i => .ty i
  | _, _, .tup e r => .tup (ht _ _ e) (Reps.mono hp ht r)
  | _, _, .loc e => .loc (prefix_get hp e)
theorem Reps.mono {ρ ρ' H H'} (hp : ρ <+: ρ') (ht : ∀ a xs, H a = some (.tup xs) → H' a = some (.tup xs)) : ∀ {v d}, Reps H ρ v d → Reps H' ρ' v d
  | _, _, .nil => .nil
  | _, _, .cons r t => .cons (Rep.mono hp ht r) (Reps.mono hp ht t)
end
theorem RepF.mono {κ : Type} {ρ ρ' H H'} (hp : ρ <+: ρ') (ht : ∀ a xs, H a = some (.tup xs) → H' a = some (.tup xs)) {gs : List (κ × V)} {fs : List (κ × D)} (h : RepF H ρ gs fs) : RepF H' ρ' gs fs :=
  Paired.mapP h fun _ _ ⟨e, r⟩ => ⟨e, r.mono hp ht⟩
theorem Sim.tup {ρ S H ρ' H'} (s : Sim ρ S H) (e : Ext ρ H ρ' H') : ∀ a xs, H a = some (.tup xs) → H' a = some (.tup xs) := fun a xs h => e.fr a _ h (s.nmem h rfl)
theorem Rep.ext {ρ S H ρ' H' v d} (r : Rep H ρ v d) (s : Sim ρ S H) (e : Ext ρ H ρ' H') : Rep H' ρ' v d := r.mono e.pre (s.tup e)
theorem Reps.ext {ρ S H ρ' H' v d} (r : Reps H ρ v d) (s : Sim ρ S H) (e : Ext ρ H ρ' H') : Reps H' ρ' v d := r.mono e.pre (s.tup e)
theorem RepO.mono {ρ ρ' H H' a} (hp : ρ <+: ρ') (ht : ∀ a xs, H a = some (.tup xs) → H' a = some (.tup xs)) (ha : ∀ u, H a = some u → H' a = some u) {o : O} (h : RepO H ρ a o) : RepO H' ρ' a o := by
  cases o with
  | lst _ => obtain ⟨xs, e, r⟩ := h; exact ⟨xs, ha _ e, r.mono hp ht⟩
  | dK _ => obtain ⟨xs, e, r⟩ := h; exact ⟨xs, ha _ e, r.mono hp ht⟩
  | dT _ => obtain ⟨xs, e, r⟩ := h; exact ⟨xs, ha _ e, r.mono hp ht⟩
  | ins _ _ => obtain ⟨dx, xs, e, n, r⟩ := h; exact ⟨dx, xs, ha _ e, n, r.mono hp ht⟩
  | fK _ => obtain ⟨dx, xs, e, r⟩ := h; exact ⟨dx, xs, ha _ e, r.mono hp ht⟩
  | fT _ => obtain ⟨dx, xs, e, r⟩ := h; exact ⟨dx, xs, ha _ e, r.mono hp ht⟩

/-! ### the four steps of a heap -/
/-- nothing tracked is laid that the store should know (a tuple, ..) -/
theorem Sim.lay {ρ S H p o} (s : Sim ρ S H) (hp : H p = none) : Ext ρ H ρ (upd H p o) ∧ Sim ρ S (upd H p o) := by
  have e : Ext ρ H ρ (upd H p o) := ⟨List.prefix_refl _, fun _ h n => absurd h n, fun b u h _ => by rw [upd_ne (ne_of_none h hp)]; exact h, fun b o u h => by rw [upd_ne (ne_of_none h hp)]; exact h⟩
  refine ⟨e, s.len, s.nd, fun n u h => ?_⟩
  obtain ⟨a, e1, r⟩ := s.at_ n u h
  exact ⟨a, e1, r.mono (List.prefix_refl _) (s.tup e) fun u h => by rw [upd_ne (ne_of_none h hp)]; exact h⟩
/-- a new object -/
theorem Sim.new {ρ S H p o u} (s : Sim ρ S H) (hp : H p = none) (hr : RepO (upd H p u) ρ p o) : Ext ρ H (ρ ++ [p]) (upd H p u) ∧ Sim (ρ ++ [p]) (S ++ [o]) (upd H p u) := by
  have np : p ∉ ρ := s.fresh hp
  have e : Ext ρ H (ρ ++ [p]) (upd H p u) := ⟨List.prefix_append _ _, fun b h n => by
      rcases List.mem_append.mp h with h | h
      · exact absurd h n
      · rw [List.mem_singleton.mp h]; exact hp, fun b u h _ => by rw [upd_ne (ne_of_none h hp)]; exact h, fun b o u h => by rw [upd_ne (ne_of_none h hp)]; exact h⟩
  have tt : ∀ a xs, (upd H p u) a = some (.tup xs) → (upd H p u) a = some (.tup xs) := fun _ _ h => h
  refine ⟨e, by simp [s.len], ?_, fun n w h => ?_⟩
  · refine List.nodup_append.mpr ⟨s.nd, by simp, fun a ha b hb => ?_⟩
    rintro rfl
    exact np (by rw [← List.mem_singleton.mp hb]; exact ha)
  · by_cases hn : n < S.length
    · rw [List.getElem?_append_left hn] at h
      obtain ⟨a, e1, r⟩ := s.at_ n w h
      exact ⟨a, prefix_get e.pre e1, r.mono e.pre (s.tup e) fun u h => by rw [upd_ne (ne_of_none h hp)]; exact h⟩
    · have hn2 : n = S.length := by
        have : n < (S ++ [o]).length := by
          rcases Nat.lt_or_ge n (S ++ [o]).length with h' | h'
          · exact h'
          · rw [List.getElem?_eq_none h'] at h; cases h
        simp at this; omega
      subst hn2
      have h2 : o = w := by simpa using h
      subst h2
      refine ⟨p, by rw [← s.len]; simp, hr.mono e.pre tt fun u h => h⟩
/-- an object is changed -/
def noFz : HO → Bool
  | .frz _ _ => false
  | _ => true
theorem Sim.set {ρ S H a n o u w} (s : Sim ρ S H) (ha : ρ[n]? = some a) (hw : H a = some w) (hf : noFz w = true) (hr : RepO (upd H a u) ρ a o) : Ext ρ H ρ (upd H a u) ∧ Sim ρ (S.set n o) (upd H a u) := by
  have hm : a ∈ ρ := List.mem_of_getElem? ha
  have e : Ext ρ H ρ (upd H a u) := ⟨List.prefix_refl _, fun _ h n => absurd h n, fun b x h hb => by rw [upd_ne (fun z => hb (by rw [z]; exact hm))]; exact h, fun b x y h => by rw [upd_ne (fun z => by rw [z, hw] at h; cases h; cases hf)]; exact h⟩
  refine ⟨e, by simp [s.len], s.nd, fun k x h => ?_⟩
  by_cases hk : n = k
  · subst hk
    have hS : n < S.length := by
      rw [← s.len]
      rcases Nat.lt_or_ge n ρ.length with h' | h'
      · exact h'
      · rw [List.getElem?_eq_none h'] at ha; cases ha
    rw [List.getElem?_set_self hS] at h
    cases h
    exact ⟨a, ha, hr⟩
  · rw [List.getElem?_set_ne hk] at h
    obtain ⟨b, e1, r⟩ := s.at_ k x h
    have hb : b ≠ a := by
      rintro rfl
      have hn1 : n < ρ.length := by
        rcases Nat.lt_or_ge n ρ.length with h' | h'
        · exact h'
        · rw [List.getElem?_eq_none h'] at ha; cases ha
      exact hk ((List.getElem?_inj hn1 s.nd).mp (by rw [ha, e1]))
    exact ⟨b, e1, r.mono (List.prefix_refl _) (s.tup e) fun u h => by rw [upd_ne hb]; exact h⟩

/-! ### places -/
structure SRep (H : Hp) (ρ : List Addr) (σ : L2.St) (σd : Sd) : Prop where
  len : σd.length = σ.length
  at_ : ∀ (i : Nat) (d : D), σd[i]? = some (some d) → ∃ v, σ[i]? = some (some v) ∧ Rep H ρ v d
theorem SRep.ext {ρ S H ρ' H' σ σd} (r : SRep H ρ σ σd) (s : Sim ρ S H) (e : Ext ρ H ρ' H') : SRep H' ρ' σ σd :=
  ⟨r.len, fun i d h => let ⟨v, e1, q⟩ := r.at_ i d h; ⟨v, e1, q.ext s e⟩⟩
theorem SRep.set {ρ H σ σd v d} (r : SRep H ρ σ σd) (q : Rep H ρ v d) (i : Nat) : SRep H ρ (σ.set i (some v)) (σd.set i (some d)) := by
  refine ⟨by simp [r.len], fun k x h => ?_⟩
  by_cases hk : i = k
  · subst hk
    have hl : i < σd.length := by
      rcases Nat.lt_or_ge i σd.length with h' | h'
      · exact h'
      · rw [List.getElem?_eq_none (by simpa using h')] at h; cases h
    rw [List.getElem?_set_self hl] at h
    cases h
    exact ⟨v, List.getElem?_set_self (by rw [← r.len]; exact hl), q⟩
  · rw [List.getElem?_set_ne hk] at h
    rw [List.getElem?_set_ne hk]
    exact r.at_ k x h

/-! ### what is wanted behind a result -/
def RepX (H : Hp) (ρ : List Addr) : Option Addr → Option (List (Str × D)) → Prop
  | none, none => True
  | some a, some fs => ∃ gs, H a = some (.xd gs) ∧ RepF H ρ gs fs
  | _, _ => False
def PX (E : XK) (ρ : List Addr) (H : Hp) (c : Value) (fs : Option (List (Str × D))) (S' : Sto) : Prop :=
  ∀ dx ρ' H', Ext ρ H ρ' H' → Sim ρ' S' H' → RepX H' ρ' dx fs → E c dx H'
def PostG {α β : Type} (rel : Hp → List Addr → β → α → Prop) (E : XK) (ρ : List Addr) (H : Hp) (Q : β → Hp → Prop) : R α → Prop
  | .ok d S' => ∀ v ρ' H', Ext ρ H ρ' H' → Sim ρ' S' H' → rel H' ρ' v d → Q v H'
  | .exc c fs S' => PX E ρ H c fs S'
  | .bad => False
theorem PX.weak {E ρ H ρ1 H1 c fs S'} (h : PX E ρ H c fs S') (e : Ext ρ H ρ1 H1) : PX E ρ1 H1 c fs S' := fun dx ρ' H' e' s r => h dx ρ' H' (e.trans e') s r
section
variable {α β γ δ : Type} {rel : Hp → List Addr → β → α → Prop} {rel2 : Hp → List Addr → δ → γ → Prop} {E : XK} {ρ ρ1 : List Addr} {H H1 : Hp} {Q Q' : β → Hp → Prop}
theorem PostG.weak {r : R α} (h : PostG rel E ρ H Q r) (e : Ext ρ H ρ1 H1) : PostG rel E ρ1 H1 Q r := by
  cases r with
  | ok d S' => exact fun v ρ' H' e' s q => h v ρ' H' (e.trans e') s q
  | exc c fs S' => exact PX.weak h e
  | bad => exact h
theorem PostG.mono {r : R α} (h : PostG rel E ρ H Q r) (hq : ∀ v H', Q v H' → Q' v H') : PostG rel E ρ H Q' r := by
  cases r with
  | ok d S' => exact fun v ρ' H' e' s q => hq _ _ (h v ρ' H' e' s q)
  | exc c fs S' => exact h
  | bad => exact h
theorem PostG.bind {m : R α} {k : α → Sto → R γ} {Q : δ → Hp → Prop} (h : PostG rel2 E ρ H Q (m.bind k)) :
    PostG rel E ρ H (fun v H1 => ∃ ρ1 S1 x, Ext ρ H ρ1 H1 ∧ Sim ρ1 S1 H1 ∧ rel H1 ρ1 v x ∧ PostG rel2 E ρ1 H1 Q (k x S1)) m := by
  cases m with
  | ok d S' => exact fun v ρ' H' e s q => ⟨ρ', S', d, e, s, q, PostG.weak h e⟩
  | exc c fs S' => exact h
  | bad => exact h
/-- a value that is at hand -/
theorem PostG.here {d : α} {S : Sto} {v : β} (h : PostG rel E ρ H Q (.ok d S)) (s : Sim ρ S H) (r : rel H ρ v d) : Q v H := h v ρ H .refl s r
end
/-- a functional reading -/
def tG {α β : Type} (rel : Hp → List Addr → β → α → Prop) (E : XK) (m : Sd → Sto → R α) : L2.St → Hp → (β → Hp → Prop) → Prop :=
  fun σ H Q => ∃ ρ S σd, Sim ρ S H ∧ SRep H ρ σ σd ∧ PostG rel E ρ H Q (m σd S)
abbrev relB : Hp → List Addr → Bool → Bool → Prop := fun _ _ b c => b = c
abbrev tF (E : XK) (m : Sd → Sto → R D) : TE := tG Rep E m
abbrev tFT (E : XK) (m : Sd → Sto → R Bool) : TT := tG relB E m
abbrev tFA (E : XK) (m : Sd → Sto → R (List D)) : TA := tG Reps E m
abbrev Me := Sd → Sto → R D
abbrev Mt := Sd → Sto → R Bool
abbrev Ma := Sd → Sto → R (List D)
abbrev FE (X : Cx) (E : XK) (e : Expr) (m : Me) : Prop := PE X e (tF E m)
abbrev FT (X : Cx) (E : XK) (e : Expr) (m : Mt) : Prop := PT X e (tFT E m)
abbrev FA (X : Cx) (E : XK) (es : List Expr) (m : Ma) : Prop := PA X es (tFA E m)
section
variable {X : Cx} {e : Expr} {t t' : TE} {es : List Expr} {tt tt' : TT} {ta ta' : TA} {st : Stmt} {sts : List Stmt} {ts ts' : TS}
theorem pe_imp (h : PE X e t) (i : ∀ σ H Q, t' σ H Q → t σ H Q) : PE X e t' := ⟨fun pins s σ H Q I hw => h.run pins s σ H Q I (i _ _ _ hw)⟩
theorem pt_imp (h : PT X e tt) (i : ∀ σ H Q, tt' σ H Q → tt σ H Q) : PT X e tt' := ⟨fun pins s σ H Q I hw => h.run pins s σ H Q I (i _ _ _ hw)⟩
theorem pw_imp (h : PW X e tt) (i : ∀ σ H Q, tt' σ H Q → tt σ H Q) : PW X e tt' := ⟨fun wh pins s σ H Q I hw => h.run wh pins s σ H Q I (i _ _ _ hw)⟩
theorem pa_imp (h : PA X es ta) (i : ∀ σ H Q, ta' σ H Q → ta σ H Q) : PA X es ta' := ⟨fun pos pins s σ H Q I hw => h.run pos pins s σ H Q I (i _ _ _ hw)⟩
theorem ps_imp (h : PS X st ts) (i : ∀ D σ H, ts' D σ H → ts D σ H) : PS X st ts' := ⟨fun pins s σ H D I hw => h.run pins s σ H D I (i _ _ _ hw)⟩
theorem pss_imp (h : PSs X sts ts) (i : ∀ D σ H, ts' D σ H → ts D σ H) : PSs X sts ts' := ⟨fun pins s σ H D I hw => h.run pins s σ H D I (i _ _ _ hw)⟩
end
section
variable {α β γ δ : Type} {rel : Hp → List Addr → β → α → Prop} {rel2 : Hp → List Addr → δ → γ → Prop} {E : XK} {σ : L2.St} {H : Hp}
/-- one reading behind another -/
theorem tG_bind {m : Sd → Sto → R α} {k : Sd → α → Sto → R γ} {Q : δ → Hp → Prop} {Q' : β → Hp → Prop} (h : tG rel2 E (fun σd S => (m σd S).bind (k σd)) σ H Q)
    (go : ∀ v H1 ρ1 S1 σd x, Sim ρ1 S1 H1 → SRep H1 ρ1 σ σd → rel H1 ρ1 v x → PostG rel2 E ρ1 H1 Q (k σd x S1) → Q' v H1) : tG rel E m σ H Q' := by
  obtain ⟨ρ, S, σd, s, r, h⟩ := h
  refine ⟨ρ, S, σd, s, r, PostG.mono (PostG.bind h) fun v H1 ⟨ρ1, S1, x, e, s1, q, h1⟩ => ?_⟩
  exact go v H1 ρ1 S1 σd x s1 (r.ext s e) q h1
end
end FL
set_option Elab.async false
set_option linter.all false
set_option maxRecDepth 100000
set_option maxHeartbeats 4000000
/-! FL2: functional readings of expressions. -/
namespace FL
open PySem PySem.Spec PyProof.Rows L2
variable [KMap]

/-! ### names, constants -/
@[simp] def mVar (i : Nat) (σ : Sd) (S : Sto) : R D := match σ[i]? with
  | some (some d) => .ok d S
  | _ => .bad
@[simp] def mC (d : D) (_ : Sd) (S : Sto) : R D := .ok d S
section
variable {X : Cx} {E : XK} {pos : Pos}
theorem fe_var {i : Nat} {x : Str} (hN : X.N[i]? = some x) (hv : Vis X.env.scope x) (hd : (x == ("__debug__" : Str)) = false := by decide) (hcd : (x == ("__classdict__" : Str)) = false := by decide) : FE X E (.Name x pos) (mVar i) :=
  pe_imp (pe_var hN hv hd hcd) fun σ H Q ⟨ρ, S, σd, s, r, h⟩ => by
    unfold mVar at h
    split at h
    · rename_i d e
      obtain ⟨v, e1, q⟩ := r.at_ i d e
      exact ⟨v, e1, h.here s q⟩
    · exact h.elim
theorem fe_c {e : Expr} {v : V} {d : D} (h : PE X e (tC v)) (hr : ∀ H ρ, Rep H ρ v d) : FE X E e (mC d) :=
  pe_imp h fun σ H Q ⟨ρ, S, σd, s, r, h⟩ => h.here s (hr _ _)
theorem fe_int {i j} : FE X E (.Constant (.int i) j pos) (mC (.int i)) := fe_c pe_int fun _ _ => .int _
theorem fe_bl {i j} : FE X E (.Constant (.bool i) j pos) (mC (.bl i)) := fe_c pe_bl fun _ _ => .bl _
theorem fe_non {j} : FE X E (.Constant .none j pos) (mC .non) := fe_c pe_non fun _ _ => .non
theorem fe_str {i j} : FE X E (.Constant (.str i) j pos) (mC (.str i)) := fe_c pe_str fun _ _ => .str _
theorem fe_ty {x : Str} {n : String} (hg : Gl X x) (hm : X.mg x = none) (hv : bootBuiltins x = some (.type n)) (hn : x ≠ "__name__" := by decide) (hd : (x == ("__debug__" : Str)) = false := by decide) : FE X E (.Name x pos) (mC (.ty n)) :=
  fe_c (pe_bltn (v := .ty n) hg hm hv rfl hn hd) fun _ _ => .ty _
end

/-! ### two places, one place -/
abbrev Fn2 := D → D → Sto → R D
abbrev Fn1 := D → Sto → R D
abbrev FnL := List D → Sto → R D
@[simp] def opK (f : Fn2) (b : Me) (σ : Sd) (x : D) (S1 : Sto) : R D := (b σ S1).bind (f x)
@[simp] def mOp (f : Fn2) (a b : Me) (σ : Sd) (S : Sto) : R D := (a σ S).bind (opK f b σ)
@[simp] def mUn (f : Fn1) (a : Me) (σ : Sd) (S : Sto) : R D := (a σ S).bind f
def R2Ok (E : XK) (r : R2) (f : Fn2) : Prop := ∀ ρ S H x y dx dy Q, Sim ρ S H → Rep H ρ x dx → Rep H ρ y dy → PostG Rep E ρ H Q (f dx dy S) → r x y H Q
def R1Ok (E : XK) (r : V → Hp → VK → Prop) (f : Fn1) : Prop := ∀ ρ S H x dx Q, Sim ρ S H → Rep H ρ x dx → PostG Rep E ρ H Q (f dx S) → r x H Q
def RnOk (E : XK) (r : List V → Hp → VK → Prop) (f : FnL) : Prop := ∀ ρ S H xs ds Q, Sim ρ S H → Reps H ρ xs ds → PostG Rep E ρ H Q (f ds S) → r xs H Q
structure OpF (X : Cx) (E : XK) (g : Value → Value → Sem Value) (f : Fn2) : Prop where
  ex : ∃ r, OpR X g r ∧ R2Ok E r f
structure UnF (X : Cx) (E : XK) (g : Value → Sem Value) (f : Fn1) : Prop where
  ex : ∃ r, UnR X g r ∧ R1Ok E r f
structure CallF (X : Cx) (E : XK) (g : Value) (f : FnL) : Prop where
  ex : ∃ r, CallR X g r ∧ RnOk E r f
section
variable {X : Cx} {E : XK} {pos : Pos} {a b c : Expr} {ma mb mc : Me}
theorem tOp_of {r : R2} {f : Fn2} (hr : R2Ok E r f) {σ H Q} (h : tF E (mOp f ma mb) σ H Q) : tOp r (tF E ma) (tF E mb) σ H Q := by
  obtain ⟨ρ, S, σd, s, r, h⟩ := h
  exact ⟨ρ, S, σd, s, r, (PostG.bind (rel := Rep) h).mono fun x H1 ⟨ρ1, S1, dx, e1, s1, q1, h1⟩ => ⟨ρ1, S1, σd, s1, r.ext s e1, (PostG.bind (rel := Rep) h1).mono fun y H2 ⟨ρ2, S2, dy, e2, s2, q2, h2⟩ =>
    hr ρ2 S2 H2 x y dx dy Q s2 (q1.ext s1 e2) q2 h2⟩⟩
theorem tUn_of {r : V → Hp → VK → Prop} {f : Fn1} (hr : R1Ok E r f) {σ H Q} (h : tF E (mUn f ma) σ H Q) : tUn r (tF E ma) σ H Q := by
  obtain ⟨ρ, S, σd, s, r, h⟩ := h
  exact ⟨ρ, S, σd, s, r, (PostG.bind (rel := Rep) h).mono fun x H1 ⟨ρ1, S1, dx, e1, s1, q1, h1⟩ => hr ρ1 S1 H1 x dx Q s1 q1 h1⟩
theorem fe_op {op : Operator} {f : Fn2} (ho : OpF X E (binaryOp op) f) (ha : FE X E a ma) (hb : FE X E b mb) : FE X E (.BinOp a op b pos) (mOp f ma mb) := by
  obtain ⟨r, h1, h2⟩ := ho.ex
  exact pe_imp (pe_op h1 ha hb) fun σ H Q h => tOp_of h2 h
theorem fe_un {op : UnaryOp} {f : Fn1} (ho : UnF X E (unaryOp op) f) (ha : FE X E a ma) : FE X E (.UnaryOp op a pos) (mUn f ma) := by
  obtain ⟨r, h1, h2⟩ := ho.ex
  exact pe_imp (pe_un h1 ha) fun σ H Q h => tUn_of h2 h
theorem fe_cmp {op : CmpOp} {f : Fn2} (ho : OpF X E (compareOp op) f) (ha : FE X E a ma) (hb : FE X E b mb) (hm : behindInMarks op b = false) : FE X E (.Compare a [op] [b] pos) (mOp f ma mb) := by
  obtain ⟨r, h1, h2⟩ := ho.ex
  exact pe_imp (pe_cmpR h1 ha hb hm) fun σ H Q h => tOp_of h2 h
/-! tests -/
@[simp] def asB : D → Sto → R Bool
  | .bl b, S => .ok b S
  | _, _ => .bad
@[simp] def mTest (m : Me) (σ : Sd) (S : Sto) : R Bool := (m σ S).bind asB
theorem asB_post {ρ S H x d} {Q : Bool → Hp → Prop} (s : Sim ρ S H) (r : Rep H ρ x d) (h : PostG relB E ρ H Q (asB d S)) : ∃ c, x = .bl c ∧ Q c H := by
  cases d with
  | bl b => cases r; exact ⟨b, rfl, h.here s rfl⟩
  | _ => exact h.elim
theorem tTest_of {σ H Q} (h : tFT E (mTest ma) σ H Q) : tTest (tF E ma) σ H Q := by
  obtain ⟨ρ, S, σd, s, r, h⟩ := h
  exact ⟨ρ, S, σd, s, r, (PostG.bind (rel := Rep) h).mono fun x H1 ⟨ρ1, S1, dx, e1, s1, q1, h1⟩ => asB_post s1 q1 h1⟩
/-- an expression whose value is a bool, as a test -/
theorem ft_val (h : FE X E a ma) (he : ∀ whole, isTrue a X.env whole = (do let v ← whole; standAt a.pos; holding [v] (truthy v)) := by intro _; rfl) : FT X E a (mTest ma) :=
  pt_imp (pt_val h he) fun σ H Q h => tTest_of h
theorem ft_cmp {op : CmpOp} {f : Fn2} (ho : OpF X E (compareOp op) f) (ha : FE X E a ma) (hb : FE X E b mb) (hm : behindInMarks op b = false) : FT X E (.Compare a [op] [b] pos) (mTest (mOp f ma mb)) := by
  obtain ⟨r, h1, h2⟩ := ho.ex
  refine pt_imp (pt_cmpR h1 ha hb hm) fun σ H Q h => ?_
  have h' := tTest_of h
  have := tOp_of (ma := ma) (mb := mb) h2 h'
  exact this
/-! and, or, not -/
def FW (X : Cx) (E : XK) (e : Expr) (m : Mt) : Prop := PW X e (tFT E m)
@[simp] def mCB (c : Bool) (_ : Sd) (S : Sto) : R Bool := .ok c S
@[simp] def andK (b : Mt) (σ : Sd) (x : Bool) (S1 : Sto) : R Bool := brK x b (mCB false) σ S1
@[simp] def mAnd (a b : Mt) (σ : Sd) (S : Sto) : R Bool := (a σ S).bind (andK b σ)
@[simp] def orK (b : Mt) (σ : Sd) (x : Bool) (S1 : Sto) : R Bool := brK x (mCB true) b σ S1
@[simp] def mOr (a b : Mt) (σ : Sd) (S : Sto) : R Bool := (a σ S).bind (orK b σ)
@[simp] def notK (x : Bool) (S1 : Sto) : R Bool := .ok (!x) S1
@[simp] def mNot (a : Mt) (σ : Sd) (S : Sto) : R Bool := (a σ S).bind notK
variable {ta tb : Mt} {rest : List Expr}
theorem fw_pt {e : Expr} (h : FW X E e ta) : FT X E e ta := PW.pt h
theorem fw_and1 (ha : FT X E a ta) : FW X E (.BoolOp .And [a] pos) ta := pw_and1 ha
theorem fw_or1 (ha : FT X E a ta) : FW X E (.BoolOp .Or [a] pos) ta := pw_or1 ha
theorem fw_and (ha : FT X E a ta) (hb : FW X E (.BoolOp .And (b :: rest) pos) tb) : FW X E (.BoolOp .And (a :: b :: rest) pos) (mAnd ta tb) :=
  pw_imp (pw_and ha hb) fun σ H Q ⟨ρ, S, σd, s, r, h⟩ => ⟨ρ, S, σd, s, r, (PostG.bind (rel := relB) h).mono fun x H1 ⟨ρ1, S1, dx, e1, s1, q1, h1⟩ => by
    cases (show x = dx from q1)
    cases x with
    | true => rw [if_pos rfl]; exact ⟨ρ1, S1, σd, s1, r.ext s e1, h1⟩
    | false => rw [if_neg Bool.false_ne_true]; exact h1.here s1 rfl⟩
theorem fw_or (ha : FT X E a ta) (hb : FW X E (.BoolOp .Or (b :: rest) pos) tb) : FW X E (.BoolOp .Or (a :: b :: rest) pos) (mOr ta tb) :=
  pw_imp (pw_or ha hb) fun σ H Q ⟨ρ, S, σd, s, r, h⟩ => ⟨ρ, S, σd, s, r, (PostG.bind (rel := relB) h).mono fun x H1 ⟨ρ1, S1, dx, e1, s1, q1, h1⟩ => by
    cases (show x = dx from q1)
    cases x with
    | false => rw [if_neg Bool.false_ne_true]; exact ⟨ρ1, S1, σd, s1, r.ext s e1, h1⟩
    | true => rw [if_pos rfl]; exact h1.here s1 rfl⟩
theorem ft_not (ha : FT X E a ta) : FT X E (.UnaryOp .Not a pos) (mNot ta) :=
  pt_imp (pt_not ha) fun σ H Q ⟨ρ, S, σd, s, r, h⟩ => ⟨ρ, S, σd, s, r, (PostG.bind (rel := relB) h).mono fun x H1 ⟨ρ1, S1, dx, e1, s1, q1, h1⟩ => by
    cases (show x = dx from q1)
    exact h1.here s1 rfl⟩
/-- .. as values, all but the last bools -/
@[simp] def andVK2 (b : Me) (σ : Sd) (x : Bool) (S1 : Sto) : R D := brK x b (mC (.bl false)) σ S1
@[simp] def andVK (b : Me) (σ : Sd) (x : D) (S1 : Sto) : R D := (asB x S1).bind (andVK2 b σ)
@[simp] def mAndV (a b : Me) (σ : Sd) (S : Sto) : R D := (a σ S).bind (andVK b σ)
@[simp] def orVK2 (b : Me) (σ : Sd) (x : Bool) (S1 : Sto) : R D := brK x (mC (.bl true)) b σ S1
@[simp] def orVK (b : Me) (σ : Sd) (x : D) (S1 : Sto) : R D := (asB x S1).bind (orVK2 b σ)
@[simp] def mOrV (a b : Me) (σ : Sd) (S : Sto) : R D := (a σ S).bind (orVK b σ)
@[simp] def notVK2 (x : Bool) (S1 : Sto) : R D := .ok (.bl (!x)) S1
@[simp] def notVK (x : D) (S1 : Sto) : R D := (asB x S1).bind notVK2
@[simp] def mNotV (a : Me) (σ : Sd) (S : Sto) : R D := (a σ S).bind notVK
theorem asB_bind {α : Type} {β : Type} {rel : Hp → List Addr → β → α → Prop} {ρ S H x d} {k : Bool → Sto → R α} {Q : β → Hp → Prop} (s : Sim ρ S H) (r : Rep H ρ x d) (h : PostG rel E ρ H Q ((asB d S).bind k)) : ∃ c, x = .bl c ∧ PostG rel E ρ H Q (k c S) := by
  cases d with
  | bl b => cases r; exact ⟨b, rfl, h⟩
  | _ => exact h.elim
theorem fe_one {op} (h : FE X E a ma) : FE X E (.BoolOp op [a] pos) ma := pe_one h
theorem fe_and (ha : FE X E a ma) (hb : FE X E (.BoolOp .And (b :: rest) pos) mb) : FE X E (.BoolOp .And (a :: b :: rest) pos) (mAndV ma mb) :=
  pe_imp (pe_and ha hb) fun σ H Q ⟨ρ, S, σd, s, r, h⟩ => ⟨ρ, S, σd, s, r, (PostG.bind (rel := Rep) h).mono fun x H1 ⟨ρ1, S1, dx, e1, s1, q1, h1⟩ => by
    obtain ⟨c, rfl, h2⟩ := asB_bind s1 q1 h1
    refine ⟨c, rfl, ?_⟩
    cases c with
    | true => rw [if_pos rfl]; exact ⟨ρ1, S1, σd, s1, r.ext s e1, h2⟩
    | false => rw [if_neg Bool.false_ne_true]; exact h2.here s1 (.bl _)⟩
theorem fe_or (ha : FE X E a ma) (hb : FE X E (.BoolOp .Or (b :: rest) pos) mb) : FE X E (.BoolOp .Or (a :: b :: rest) pos) (mOrV ma mb) :=
  pe_imp (pe_or ha hb) fun σ H Q ⟨ρ, S, σd, s, r, h⟩ => ⟨ρ, S, σd, s, r, (PostG.bind (rel := Rep) h).mono fun x H1 ⟨ρ1, S1, dx, e1, s1, q1, h1⟩ => by
    obtain ⟨c, rfl, h2⟩ := asB_bind s1 q1 h1
    refine ⟨c, rfl, ?_⟩
    cases c with
    | false => rw [if_neg Bool.false_ne_true]; exact ⟨ρ1, S1, σd, s1, r.ext s e1, h2⟩
    | true => rw [if_pos rfl]; exact h2.here s1 (.bl _)⟩
theorem fe_not (ha : FE X E a ma) : FE X E (.UnaryOp .Not a pos) (mNotV ma) :=
  pe_imp (pe_not ha) fun σ H Q ⟨ρ, S, σd, s, r, h⟩ => ⟨ρ, S, σd, s, r, (PostG.bind (rel := Rep) h).mono fun x H1 ⟨ρ1, S1, dx, e1, s1, q1, h1⟩ => by
    obtain ⟨c, rfl, h2⟩ := asB_bind s1 q1 h1
    exact ⟨c, rfl, h2.here s1 (.bl _)⟩⟩
@[simp] def ifeK (a b : Me) (σ : Sd) (x : Bool) (S1 : Sto) : R D := brK x a b σ S1
@[simp] def mIf (t : Mt) (a b : Me) (σ : Sd) (S : Sto) : R D := (t σ S).bind (ifeK a b σ)
theorem fe_if (hc : FT X E c ta) (ha : FE X E a ma) (hb : FE X E b mb) : FE X E (.IfExp c a b pos) (mIf ta ma mb) :=
  pe_imp (pe_ifExp hc ha hb) fun σ H Q ⟨ρ, S, σd, s, r, h⟩ => ⟨ρ, S, σd, s, r, (PostG.bind (rel := relB) h).mono fun x H1 ⟨ρ1, S1, dx, e1, s1, q1, h1⟩ => by
    cases (show x = dx from q1)
    cases x with
    | true => rw [if_pos rfl]; exact ⟨ρ1, S1, σd, s1, r.ext s e1, h1⟩
    | false => rw [if_neg Bool.false_ne_true]; exact ⟨ρ1, S1, σd, s1, r.ext s e1, h1⟩⟩

/-! ### lists of expressions, displays -/
@[simp] def aNil (_ : Sd) (S : Sto) : R (List D) := .ok [] S
@[simp] def consK2 (x : D) (xs : List D) (S2 : Sto) : R (List D) := .ok (x :: xs) S2
@[simp] def consK (t : Ma) (σ : Sd) (x : D) (S1 : Sto) : R (List D) := (t σ S1).bind (consK2 x)
@[simp] def aCons (a : Me) (t : Ma) (σ : Sd) (S : Sto) : R (List D) := (a σ S).bind (consK t σ)
variable {es : List Expr} {t : Ma}
theorem fa_nil : FA X E [] aNil := pa_imp pa_nil fun σ H Q ⟨ρ, S, σd, s, r, h⟩ => h.here s .nil
theorem fa_cons (ha : FE X E a ma) (hr : FA X E es t) (hs : starEach (a :: es) X.env = (false, eval a X.env) :: starEach es X.env := by rfl) : FA X E (a :: es) (aCons ma t) :=
  pa_imp (pa_cons ha hr hs) fun σ H Q ⟨ρ, S, σd, s, r, h⟩ => ⟨ρ, S, σd, s, r, (PostG.bind (rel := Rep) h).mono fun x H1 ⟨ρ1, S1, dx, e1, s1, q1, h1⟩ =>
    ⟨ρ1, S1, σd, s1, r.ext s e1, (PostG.bind (rel := Reps) h1).mono fun xs H2 ⟨ρ2, S2, ds, e2, s2, q2, h2⟩ => h2.here s2 (.cons (q1.ext s1 e2) q2)⟩⟩
@[simp] noncomputable def fTup (ds : List D) (S : Sto) : R D := if ds.length ≤ sizeLine then .ok (.tup ds) S else .bad
@[simp] noncomputable def fLst (ds : List D) (S : Sto) : R D := if ds.length ≤ sizeLine then .ok (.loc S.length) (S ++ [.lst ds]) else .bad
@[simp] def mL (f : FnL) (t : Ma) (σ : Sd) (S : Sto) : R D := (t σ S).bind f
theorem Reps.length {H ρ} : ∀ {vs ds}, Reps H ρ vs ds → vs.length = ds.length
  | _, _, .nil => rfl
  | _, _, .cons _ t => congrArg (· + 1) (Reps.length t)
theorem new_tup {ρ S H Q xs ds} (s : Sim ρ S H) (q : Reps H ρ xs ds) (h : PostG Rep E ρ H Q (.ok (.tup ds) S)) : ∀ p, H p = none → Q (.ref p) (upd H p (.tup xs)) := fun p hp => by
  obtain ⟨e, s2⟩ := s.lay (o := .tup xs) hp
  exact h _ ρ _ e s2 (.tup upd_same (q.ext s e))
theorem new_obj {ρ S H Q o u} (s : Sim ρ S H) (q : ∀ p, H p = none → RepO (upd H p u) ρ p o) (h : PostG Rep E ρ H Q (.ok (.loc S.length) (S ++ [o]))) : ∀ p, H p = none → Q (.ref p) (upd H p u) := fun p hp => by
  obtain ⟨e, s2⟩ := s.new hp (q p hp)
  exact h _ _ _ e s2 (.loc (by rw [← s.len]; simp))
theorem new_lst {ρ S H Q xs ds} (s : Sim ρ S H) (q : Reps H ρ xs ds) (h : PostG Rep E ρ H Q (.ok (.loc S.length) (S ++ [.lst ds]))) : ∀ p, H p = none → Q (.ref p) (upd H p (.lst xs)) :=
  new_obj (o := .lst ds) s (fun p hp => ⟨xs, upd_same, q.ext s (s.lay hp).1⟩) h
theorem fe_tup {x1} (ha : FA X E es t) : FE X E (.Tuple es x1 pos) (mL fTup t) :=
  pe_imp (pe_tup ha) fun σ H Q ⟨ρ, S, σd, s, r, h⟩ => ⟨ρ, S, σd, s, r, (PostG.bind (rel := Reps) h).mono fun xs H1 ⟨ρ1, S1, ds, e1, s1, q1, h1⟩ => by
    unfold fTup at h1
    split at h1
    · exact ⟨by rw [q1.length]; assumption, new_tup s1 q1 h1⟩
    · exact h1.elim⟩
theorem fe_lst (ha : FA X E es t) : FE X E (.List es pos) (mL fLst t) :=
  pe_imp (pe_lst ha) fun σ H Q ⟨ρ, S, σd, s, r, h⟩ => ⟨ρ, S, σd, s, r, (PostG.bind (rel := Reps) h).mono fun xs H1 ⟨ρ1, S1, ds, e1, s1, q1, h1⟩ => by
    unfold fLst at h1
    split at h1
    · exact ⟨by rw [q1.length]; assumption, new_lst s1 q1 h1⟩
    · exact h1.elim⟩

/-! ### calls of built-ins, of defs -/
variable {x : Str} {p : Pos} {e : Expr} {id : String} {f : FnL}
theorem fe_callB (hc : CallF X E (.builtin id) f) (hg : Gl X x) (hm : X.mg x = none) (hv : bootBuiltins x = some (.builtin id)) (ha : FA X E (e :: es) t) (hn : x ≠ "__name__" := by decide) (hdb : (x == ("__debug__" : Str)) = false := by decide)
    (he : starEach (e :: es) X.env = (false, eval e X.env) :: starEach es X.env := by rfl) (hpl : (backTo pos (starEach es X.env)).any (·.1) = false := by rfl) : FE X E (.Call (.Name x p) (e :: es) [] pos) (mL f t) := by
  obtain ⟨r, h1, h2⟩ := hc.ex
  exact pe_imp (pe_callB h1 hg hm hv ha hn hdb he hpl) fun σ H Q ⟨ρ, S, σd, s, r, h⟩ => ⟨ρ, S, σd, s, r, (PostG.bind (rel := Reps) h).mono fun xs H1 ⟨ρ1, S1, ds, e1, s1, q1, h1⟩ => h2 ρ1 S1 H1 xs ds Q s1 q1 h1⟩
theorem fe_callTy {T : String} (hc : CallF X E (.type T) f) (hg : Gl X x) (hm : X.mg x = none) (hv : bootBuiltins x = some (.type T)) (ha : FA X E (e :: es) t) (hn : x ≠ "__name__" := by decide) (hdb : (x == ("__debug__" : Str)) = false := by decide)
    (he : starEach (e :: es) X.env = (false, eval e X.env) :: starEach es X.env := by rfl) (hpl : (backTo pos (starEach es X.env)).any (·.1) = false := by rfl) : FE X E (.Call (.Name x p) (e :: es) [] pos) (mL f t) := by
  obtain ⟨r, h1, h2⟩ := hc.ex
  exact pe_imp (pe_callTy h1 hg hm hv ha hn hdb he hpl) fun σ H Q ⟨ρ, S, σd, s, r, h⟩ => ⟨ρ, S, σd, s, r, (PostG.bind (rel := Reps) h).mono fun xs H1 ⟨ρ1, S1, ds, e1, s1, q1, h1⟩ => h2 ρ1 S1 H1 xs ds Q s1 q1 h1⟩
/-- the promise that a def does what f does -/
def spF (f : FnL) : Sp := fun vs H Q E => ∃ ρ S ds, Sim ρ S H ∧ Reps H ρ vs ds ∧ PostG Rep E ρ H Q (f ds S)
variable {CX : CXT} {k : Nat} {fa : Addr} {fd : FuncData} {ps : List Str} {nn : Nat}
theorem fe_call (F : FnOk X.prog X.w X.K X.mg X.base CX k fa fd ps (spF f)) (hr : Room k X.A) (hg : Gl X x) (hm : X.mg x = some (.ref fa)) (hk : PySem.W.keepIn X.K (.ref fa) = true) (hb : Binds X.K fd ps []) (hx : Passes CX X E)
    (ha : FA X E (e :: es) t) (hdb : (x == ("__debug__" : Str)) = false := by decide) (he : starEach (e :: es) X.env = (false, eval e X.env) :: starEach es X.env := by rfl) (hpl : (backTo pos (starEach es X.env)).any (·.1) = false := by rfl) :
    FE X E (.Call (.Name x p) (e :: es) [] pos) (mL f t) :=
  pe_imp (pe_call F hr hg hm hk hb .nil hx ha hdb he hpl) fun σ H Q ⟨ρ, S, σd, s, r, h⟩ => ⟨ρ, S, σd, s, r, (PostG.bind (rel := Reps) h).mono fun xs H1 ⟨ρ1, S1, ds, e1, s1, q1, h1⟩ =>
    ⟨ρ1, S1, ds, s1, by rw [List.append_nil]; exact q1, h1⟩⟩
theorem fe_call0 (F : FnOk X.prog X.w X.K X.mg X.base CX k fa fd ps (spF f)) (hr : Room k X.A) (hg : Gl X x) (hm : X.mg x = some (.ref fa)) (hk : PySem.W.keepIn X.K (.ref fa) = true) (hb : Binds X.K fd ps []) (hx : Passes CX X E)
    (hdb : (x == ("__debug__" : Str)) = false := by decide) : FE X E (.Call (.Name x p) [] [] pos) (mL f aNil) :=
  pe_imp (pe_call0 F hr hg hm hk hb .nil hx hdb) fun σ H Q ⟨ρ, S, σd, s, r, h⟩ => ⟨ρ, S, [], s, .nil, h⟩
/-! ### subscripts, slices, methods -/
structure IxF (X : Cx) (E : XK) (f : Fn2) : Prop where
  ex : ∃ r, IxR X r ∧ R2Ok E r f
theorem fe_ix {f : Fn2} (ho : IxF X E f) (ha : FE X E a ma) (hb : FE X E b mb) (hs : PlainIx b) : FE X E (.Subscript a b pos) (mOp f ma mb) := by
  obtain ⟨r, h1, h2⟩ := ho.ex
  exact pe_imp (pe_ix h1 ha hb hs) fun σ H Q h => tOp_of h2 h
structure MtF (X : Cx) (E : XK) (id : String) (f : D → List D → Sto → R D) : Prop where
  ex : ∃ r, MtR X id r ∧ ∀ ρ S H x xs dx ds Q, Sim ρ S H → Rep H ρ x dx → Reps H ρ xs ds → PostG Rep E ρ H Q (f dx ds S) → r x xs H Q
/-- the receiver's type, by the store -/
@[simp] def tyD (T : String) (S : Sto) : D → Bool
  | .str _ => T == "str"
  | .int _ => T == "int"
  | .loc n => match S[n]? with
    | some (.lst _) => T == "list"
    | some (.dK _) => T == "dict"
    | some (.dT _) => T == "dict"
    | _ => false
  | _ => false
theorem tyD_of {K : PySem.W.Frag} {T : String} {S ρ H x d} (s : Sim ρ S H) (r : Rep H ρ x d) (h : tyD T S d = true) : tyV K T x H := by
  cases d with
  | str z => cases r; exact beq_iff_eq.mp h
  | int z => cases r; exact beq_iff_eq.mp h
  | loc n =>
    cases r with
    | loc e =>
      simp only [tyD] at h
      cases q : S[n]? with
      | none => rw [q] at h; cases h
      | some o =>
        rw [q] at h
        obtain ⟨a, e1, ro⟩ := s.at_ n o q
        rw [e] at e1; cases e1
        cases o with
        | lst ds => obtain ⟨xs, e2, _⟩ := ro; exact .inl ⟨beq_iff_eq.mp h, xs, .of e2⟩
        | dK ds => obtain ⟨xs, e2, _⟩ := ro; exact .inr (.inr (.inl ⟨beq_iff_eq.mp h, .inl ⟨xs, e2⟩⟩))
        | dT ds => obtain ⟨xs, e2, _⟩ := ro; exact .inr (.inr (.inl ⟨beq_iff_eq.mp h, .inr ⟨xs, e2⟩⟩))
        | ins _ _ => cases h
        | fK _ => cases h
        | fT _ => cases h
  | _ => cases h
@[simp] def bmK (T : String) (f : D → List D → Sto → R D) (t : Ma) (σ : Sd) (x : D) (S1 : Sto) : R D := if tyD T S1 x = true then (t σ S1).bind (f x) else .bad
@[simp] def mBM (T : String) (f : D → List D → Sto → R D) (o : Me) (t : Ma) (σ : Sd) (S : Sto) : R D := (o σ S).bind (bmK T f t σ)
theorem fe_bm {T : String} {name : Str} {o : Expr} {apos cpos : Pos} {mo : Me} {f : D → List D → Sto → R D} (pa : PlainAttrs T) (slot : Slot T name id) (hty : typeOf (.builtin id) = pure (.type "method_descriptor")) (hm : MtF X E id f) (ho : FE X E o mo) (ha : FA X E (e :: es) t)
    (hbase : attributeBase o name X.env (eval o X.env) = eval o X.env := by rfl)
    (hfew : ((backTo cpos (starEach (e :: es) X.env)).all (fun x => !x.1) && (backToKw cpos (keywordEach [] X.env)).all (fun x => x.1.isSome)
      && decide ((e :: es).length + ([] : List Keyword).length + (if ([] : List Keyword).isEmpty then 0 else 1) < 30)) = true := by rfl)
    (hline : (apos.endLine == cpos.line) = true := by rfl) (hs : starEach (e :: es) X.env = (false, eval e X.env) :: starEach es X.env := by rfl) (hplain : (backTo cpos (starEach es X.env)).any (·.1) = false := by rfl) :
    FE X E (.Call (.Attribute o name apos) (e :: es) [] cpos) (mBM T f mo t) := by
  obtain ⟨r, h1, h2⟩ := hm.ex
  refine pe_imp (pe_bm pa slot hty h1 ho ha hbase hfew hline hs hplain) fun σ H Q ⟨ρ, S, σd, s, r, h⟩ => ⟨ρ, S, σd, s, r, (PostG.bind (rel := Rep) h).mono fun x H1 ⟨ρ1, S1, dx, e1, s1, q1, h1⟩ => ?_⟩
  unfold bmK at h1
  split at h1
  · rename_i ht
    exact ⟨tyD_of s1 q1 ht, ρ1, S1, σd, s1, r.ext s e1, (PostG.bind (rel := Reps) h1).mono fun xs H2 ⟨ρ2, S2, ds, e2, s2, q2, h3⟩ => h2 ρ2 S2 H2 x xs dx ds Q s2 (q1.ext s1 e2) q2 h3⟩
  · exact h1.elim
theorem fe_bm0 {T : String} {name : Str} {o : Expr} {apos cpos : Pos} {mo : Me} {f : D → List D → Sto → R D} (pa : PlainAttrs T) (slot : Slot T name id) (hty : typeOf (.builtin id) = pure (.type "method_descriptor")) (hm : MtF X E id f) (ho : FE X E o mo)
    (hbase : attributeBase o name X.env (eval o X.env) = eval o X.env := by rfl) (hline : (apos.endLine == cpos.line) = true := by rfl) :
    FE X E (.Call (.Attribute o name apos) [] [] cpos) (mBM T f mo aNil) := by
  obtain ⟨r, h1, h2⟩ := hm.ex
  refine pe_imp (pe_bm0 pa slot hty h1 ho hbase hline) fun σ H Q ⟨ρ, S, σd, s, r, h⟩ => ⟨ρ, S, σd, s, r, (PostG.bind (rel := Rep) h).mono fun x H1 ⟨ρ1, S1, dx, e1, s1, q1, h1⟩ => ?_⟩
  unfold bmK at h1
  split at h1
  · rename_i ht
    exact ⟨tyD_of s1 q1 ht, h2 ρ1 S1 H1 x [] dx [] Q s1 q1 .nil h1⟩
  · exact h1.elim
end
end FL
set_option Elab.async false
set_option linter.all false
set_option maxRecDepth 100000
set_option maxHeartbeats 4000000
/-! FL3: functional readings of statements, targets, loops, comprehensions, defs. -/
namespace FL
open PySem PySem.Spec PyProof.Rows L2
variable [KMap]

inductive Fl where
  | nx (σ : Sd) (S : Sto) | ret (d : D) (S : Sto) | brk (σ : Sd) (S : Sto) | cont (σ : Sd) (S : Sto) | exc (c : Value) (fs : Option (List (Str × D))) (S : Sto) | bad
abbrev Ms := Sd → Sto → Fl
def R.fl {α : Type} (r : R α) (k : α → Sto → Fl) : Fl := match r with
  | .ok a S => k a S
  | .exc c fs S => .exc c fs S
  | .bad => .bad
@[simp] theorem R.fl_ok {α : Type} (a : α) (S : Sto) (k : α → Sto → Fl) : (R.ok a S).fl k = k a S := rfl
@[simp] theorem R.fl_exc {α : Type} (c fs S) (k : α → Sto → Fl) : (R.exc c fs S).fl k = .exc c fs S := rfl
@[simp] theorem R.fl_bad {α : Type} (k : α → Sto → Fl) : (R.bad).fl k = .bad := rfl
def Fl.sq (r : Fl) (b : Sd → Sto → Fl) : Fl := match r with
  | .nx σ' S' => b σ' S'
  | r => r
@[simp] theorem Fl.sq_nx (σ S b) : (Fl.nx σ S).sq b = b σ S := rfl
@[simp] theorem Fl.sq_ret (d S b) : (Fl.ret d S).sq b = .ret d S := rfl
@[simp] theorem Fl.sq_brk (σ S b) : (Fl.brk σ S).sq b = .brk σ S := rfl
@[simp] theorem Fl.sq_cont (σ S b) : (Fl.cont σ S).sq b = .cont σ S := rfl
@[simp] theorem Fl.sq_exc (c fs S b) : (Fl.exc c fs S).sq b = .exc c fs S := rfl
@[simp] theorem Fl.sq_bad (b) : Fl.bad.sq b = .bad := rfl
def PostS (E : XK) (ρ : List Addr) (H : Hp) (D : Ends) : Fl → Prop
  | .nx σd S' => ∀ σ' ρ' H', Ext ρ H ρ' H' → Sim ρ' S' H' → SRep H' ρ' σ' σd → D.nx σ' H'
  | .ret d S' => ∀ v ρ' H', Ext ρ H ρ' H' → Sim ρ' S' H' → Rep H' ρ' v d → D.rt v H'
  | .brk σd S' => ∀ σ' ρ' H', Ext ρ H ρ' H' → Sim ρ' S' H' → SRep H' ρ' σ' σd → D.bk σ' H'
  | .cont σd S' => ∀ σ' ρ' H', Ext ρ H ρ' H' → Sim ρ' S' H' → SRep H' ρ' σ' σd → D.ct σ' H'
  | .exc c fs S' => PX E ρ H c fs S'
  | .bad => False
abbrev tFS (E : XK) (m : Ms) : TS := fun D σ H => ∃ ρ S σd, Sim ρ S H ∧ SRep H ρ σ σd ∧ PostS E ρ H D (m σd S)
abbrev FS (X : Cx) (E : XK) (st : Stmt) (m : Ms) : Prop := PS X st (tFS E m)
abbrev FSs (X : Cx) (E : XK) (st : List Stmt) (m : Ms) : Prop := PSs X st (tFS E m)
section
variable {E : XK} {ρ ρ1 : List Addr} {H H1 : Hp} {D D' : Ends}
theorem PostS.weak {r : Fl} (h : PostS E ρ H D r) (e : Ext ρ H ρ1 H1) : PostS E ρ1 H1 D r := by
  cases r with
  | nx d S' => exact fun v ρ' H' e' s q => h v ρ' H' (e.trans e') s q
  | ret d S' => exact fun v ρ' H' e' s q => h v ρ' H' (e.trans e') s q
  | brk d S' => exact fun v ρ' H' e' s q => h v ρ' H' (e.trans e') s q
  | cont d S' => exact fun v ρ' H' e' s q => h v ρ' H' (e.trans e') s q
  | exc c fs S' => exact PX.weak h e
  | bad => exact h
theorem PostG.fl {α β : Type} {rel : Hp → List Addr → β → α → Prop} {m : R α} {k : α → Sto → Fl} (h : PostS E ρ H D (m.fl k)) :
    PostG rel E ρ H (fun v H1 => ∃ ρ1 S1 x, Ext ρ H ρ1 H1 ∧ Sim ρ1 S1 H1 ∧ rel H1 ρ1 v x ∧ PostS E ρ1 H1 D (k x S1)) m := by
  cases m with
  | ok d S' => exact fun v ρ' H' e s q => ⟨ρ', S', d, e, s, q, PostS.weak h e⟩
  | exc c fs S' => exact h
  | bad => exact h
/-- .. what is wanted, unweakened -/
theorem PostG.bind' {α β γ δ : Type} {rel : Hp → List Addr → β → α → Prop} {rel2 : Hp → List Addr → δ → γ → Prop} {m : R α} {k : α → Sto → R γ} {Q : δ → Hp → Prop} (h : PostG rel2 E ρ H Q (m.bind k)) (e : Ext ρ H ρ1 H1) :
    PostG rel E ρ1 H1 (fun v H2 => ∃ ρ2 S2 x, Ext ρ1 H1 ρ2 H2 ∧ Sim ρ2 S2 H2 ∧ rel H2 ρ2 v x ∧ PostG rel2 E ρ H Q (k x S2)) m := by
  cases m with
  | ok d S' => exact fun v ρ' H' e s q => ⟨ρ', S', d, e, s, q, h⟩
  | exc c fs S' => exact PX.weak h e
  | bad => exact h
end

/-! ### blocks, small statements -/
@[simp] def mNext (σ : Sd) (S : Sto) : Fl := .nx σ S
@[simp] def mSeq (a b : Ms) (σ : Sd) (S : Sto) : Fl := (a σ S).sq b
@[simp] def mBrk (σ : Sd) (S : Sto) : Fl := .brk σ S
@[simp] def mCont (σ : Sd) (S : Sto) : Fl := .cont σ S
@[simp] def dropK (σ : Sd) (_ : D) (S' : Sto) : Fl := .nx σ S'
@[simp] def mDrop (e : Me) (σ : Sd) (S : Sto) : Fl := (e σ S).fl (dropK σ)
@[simp] def mRet (e : Me) (σ : Sd) (S : Sto) : Fl := (e σ S).fl Fl.ret
@[simp] def mRetN (_ : Sd) (S : Sto) : Fl := .ret .non S
@[simp] def ifK (a b : Ms) (σ : Sd) (x : Bool) (S1 : Sto) : Fl := brK x a b σ S1
@[simp] def mIfS (t : Mt) (a b : Ms) (σ : Sd) (S : Sto) : Fl := (t σ S).fl (ifK a b σ)
@[simp] def setK (i : Nat) (σ : Sd) (d : D) (S' : Sto) : Fl := .nx (σ.set i (some d)) S'
@[simp] def mSet (i : Nat) (e : Me) (σ : Sd) (S : Sto) : Fl := (e σ S).fl (setK i σ)
section
variable {X : Cx} {E : XK} {pos : Pos} {st : Stmt} {rest : List Stmt} {m m' : Ms} {e c : Expr} {me : Me} {mt : Mt}
theorem fss_nil : FSs X E [] mNext := pss_imp pss_nil fun D σ H ⟨ρ, S, σd, s, r, h⟩ => h σ ρ H .refl s r
theorem fss_cons (h1 : FS X E st m) (h2 : FSs X E rest m') : FSs X E (st :: rest) (mSeq m m') :=
  pss_imp (pss_cons h1 h2) fun D σ H ⟨ρ, S, σd, s, r, h⟩ => by
    refine ⟨ρ, S, σd, s, r, ?_⟩
    unfold mSeq at h
    cases q : m σd S with
    | nx σ' S' => rw [q] at h; exact fun σ1 ρ1 H1 e1 s1 r1 => ⟨ρ1, S', σ', s1, r1, PostS.weak h e1⟩
    | ret _ _ => rw [q] at h; exact h
    | brk _ _ => rw [q] at h; exact h
    | cont _ _ => rw [q] at h; exact h
    | exc _ _ _ => rw [q] at h; exact h
    | bad => rw [q] at h; exact h
theorem fss_one (h1 : FS X E st m) : FSs X E [st] m := pss_one h1
theorem fs_pass : FS X E (.Pass pos) mNext := ps_imp ps_pass fun D σ H ⟨ρ, S, σd, s, r, h⟩ => h σ ρ H .refl s r
theorem fs_brk : FS X E (.Break pos) mBrk := ps_imp ps_break fun D σ H ⟨ρ, S, σd, s, r, h⟩ => h σ ρ H .refl s r
theorem fs_cont : FS X E (.Continue pos) mCont := ps_imp ps_continue fun D σ H ⟨ρ, S, σd, s, r, h⟩ => h σ ρ H .refl s r
theorem fs_doc {x j pos'} : FS X E (.Expr (.Constant (.str x) j pos) pos') mNext := ps_imp ps_doc fun D σ H ⟨ρ, S, σd, s, r, h⟩ => h σ ρ H .refl s r
theorem fs_expr (he : FE X E e me) (hs : swapsWith e none pos.line X.env = pure false := by rfl) : FS X E (.Expr e pos) (mDrop me) :=
  ps_imp (ps_expr he hs) fun D σ H ⟨ρ, S, σd, s, r, h⟩ => ⟨ρ, S, σd, s, r, (PostG.fl (rel := Rep) h).mono fun x H1 ⟨ρ1, S1, dx, e1, s1, q1, h1⟩ => h1 σ ρ1 H1 .refl s1 (r.ext s e1)⟩
theorem fs_ret (he : FE X E e me) : FS X E (.Return (some e) pos) (mRet me) :=
  ps_imp (ps_ret he) fun D σ H ⟨ρ, S, σd, s, r, h⟩ => ⟨ρ, S, σd, s, r, (PostG.fl (rel := Rep) h).mono fun x H1 ⟨ρ1, S1, dx, e1, s1, q1, h1⟩ => h1 x ρ1 H1 .refl s1 q1⟩
theorem fs_retN : FS X E (.Return none pos) mRetN := ps_imp ps_retN fun D σ H ⟨ρ, S, σd, s, r, h⟩ => h .non ρ H .refl s .non
theorem fs_if {a b : List Stmt} (hc : FT X E c mt) (ha : FSs X E a m) (hb : FSs X E b m') : FS X E (.If c a b pos) (mIfS mt m m') :=
  ps_imp (ps_if hc ha hb) fun D σ H ⟨ρ, S, σd, s, r, h⟩ => ⟨ρ, S, σd, s, r, (PostG.fl (rel := relB) h).mono fun x H1 ⟨ρ1, S1, dx, e1, s1, q1, h1⟩ => by
    cases (show x = dx from q1)
    cases x with
    | true => rw [if_pos rfl]; exact ⟨ρ1, S1, σd, s1, r.ext s e1, h1⟩
    | false => rw [if_neg Bool.false_ne_true]; exact ⟨ρ1, S1, σd, s1, r.ext s e1, h1⟩⟩
theorem fs_set {i : Nat} {x : Str} {pos' : Pos} (hN : X.N.Nodup) (hi : X.N[i]? = some x) (hx : Loc X.env.scope x) (he : FE X E e me) (hs : swapsWith e (some (.Name x pos')) pos.line X.env = pure false := by rfl) (hf : X.fn x = true ∨ X.env.scope.names.lookup x = some .local := by first | exact .inl rfl | exact .inr rfl | assumption) :
    FS X E (.Assign [.Name x pos'] e pos) (mSet i me) :=
  ps_imp (ps_set hN hi hx he hs hf) fun D σ H ⟨ρ, S, σd, s, r, h⟩ => ⟨ρ, S, σd, s, r, (PostG.fl (rel := Rep) h).mono fun x H1 ⟨ρ1, S1, dx, e1, s1, q1, h1⟩ => h1 _ ρ1 H1 .refl s1 ((r.ext s e1).set q1 i)⟩

/-! ### targets -/
abbrev Mg := D → Sd → Sto → R Sd
abbrev Mgs := List D → Sd → Sto → R Sd
def relSd (is : List Nat) (σ : L2.St) : Hp → List Addr → L2.St → Sd → Prop := fun H ρ σ' σd => SRep H ρ σ' σd ∧ ∀ vs, (∀ i ∈ is, i ∈ vs) → wipe σ' vs = wipe σ vs
def tGg (E : XK) (g : Mg) (is : List Nat) : TG := fun v σ H Q => ∃ ρ S σd d, Sim ρ S H ∧ SRep H ρ σ σd ∧ Rep H ρ v d ∧ PostG (relSd is σ) E ρ H Q (g d σd S)
def tGgs (E : XK) (g : Mgs) (is : List Nat) : TGs := fun vs σ H Q => ∃ ρ S σd ds, Sim ρ S H ∧ SRep H ρ σ σd ∧ Reps H ρ vs ds ∧ PostG (relSd is σ) E ρ H Q (g ds σd S)
abbrev FG (X : Cx) (E : XK) (tg : Expr) (g : Mg) (is : List Nat) : Prop := PG X tg (tGg E g is)
abbrev FGs (X : Cx) (E : XK) (tg : List Expr) (g : Mgs) (is : List Nat) : Prop := PGs X tg (tGgs E g is)
theorem pg_imp {tg : Expr} {t t' : TG} (h : PG X tg t) (i : ∀ v σ H Q, t' v σ H Q → t v σ H Q) : PG X tg t' := ⟨fun pins s σ H v u Q I r hw => h.run pins s σ H v u Q I r (i _ _ _ _ hw)⟩
theorem pgs_imp {tg : List Expr} {t t' : TGs} (h : PGs X tg t) (i : ∀ v σ H Q, t' v σ H Q → t v σ H Q) : PGs X tg t' := ⟨fun pins s σ H v u Q I r hw => h.run pins s σ H v u Q I r (i _ _ _ _ hw)⟩
theorem wipe_set {α : Type} (x : Option V) (i : Nat) : ∀ (vs : List Nat) (σ : L2.St), i ∈ vs → wipe (σ.set i x) vs = wipe σ vs
  | [], _, h => by simp at h
  | v :: vs, σ, h => by
    by_cases hv : i ∈ vs
    · show (wipe (σ.set i x) vs).set v none = _
      rw [wipe_set (α := α) x i vs σ hv]
      rfl
    · have e : i = v := by
        rcases List.mem_cons.mp h with h | h
        · exact h
        · exact absurd h hv
      subst e
      have key : ∀ (ws : List Nat) (τ : L2.St), (wipe (τ.set i x) ws).set i none = (wipe τ ws).set i none := by
        intro ws
        induction ws with
        | nil => intro τ; show (τ.set i x).set i none = τ.set i none; rw [List.set_set]
        | cons w ws ih =>
          intro τ
          show ((wipe (τ.set i x) ws).set w none).set i none = ((wipe τ ws).set w none).set i none
          by_cases hw : w = i
          · subst hw; rw [List.set_set, List.set_set, ih]
          · rw [List.set_comm _ _ hw, ih, List.set_comm _ _ (Ne.symm hw)]
      exact key vs σ
@[simp] def gN (i : Nat) (d : D) (σ : Sd) (S : Sto) : R Sd := .ok (σ.set i (some d)) S
theorem fg_name {i : Nat} {x : Str} (hN : X.N.Nodup) (hi : X.N[i]? = some x) (hx : Loc X.env.scope x) (hf : X.fn x = true ∨ X.env.scope.names.lookup x = some .local := by first | exact .inl rfl | exact .inr rfl | assumption) : FG X E (.Name x pos) (gN i) [i] :=
  pg_imp (pg_name hN hi hx hf) fun v σ H Q ⟨ρ, S, σd, d, s, r, q, h⟩ => h.here s ⟨r.set q i, fun vs hv => wipe_set (α := Unit) _ i vs σ (hv i (by simp))⟩
@[simp] def gsNil (ds : List D) (σ : Sd) (S : Sto) : R Sd := match ds with
  | [] => .ok σ S
  | _ => .bad
@[simp] def gsCons (g : Mg) (t : Mgs) (ds : List D) (σ : Sd) (S : Sto) : R Sd := match ds with
  | [] => .bad
  | d :: r => (g d σ S).bind (t r)
@[simp] def gTp (n : Nat) (t : Mgs) (d : D) (σ : Sd) (S : Sto) : R Sd := match d with
  | .tup ds => if ds.length = n then t ds σ S else .bad
  | _ => .bad
theorem fgs_nil : FGs X E [] gsNil [] := pgs_imp pgs_nil fun v σ H Q ⟨ρ, S, σd, ds, s, r, q, h⟩ => by
  cases q with
  | nil => exact ⟨rfl, h.here s ⟨r, fun _ _ => rfl⟩⟩
  | cons _ _ => exact h.elim
theorem fgs_cons {tg : Expr} {tgs : List Expr} {g : Mg} {t : Mgs} {is js : List Nat} (h1 : FG X E tg g is) (h2 : FGs X E tgs t js) (hs : (assignEach (tg :: tgs) X.env).map (·.2) = assign tg X.env :: (assignEach tgs X.env).map (·.2) := by rfl) :
    FGs X E (tg :: tgs) (gsCons g t) (is ++ js) :=
  pgs_imp (pgs_cons h1 h2 hs) fun v σ H Q ⟨ρ, S, σd, ds, s, r, q, h⟩ => by
    cases q with
    | nil => exact h.elim
    | cons q1 q2 =>
      refine ⟨_, _, rfl, ρ, S, σd, _, s, r, q1, (PostG.bind (rel := relSd is σ) h).mono fun σ1 H1 ⟨ρ1, S1, σd1, e1, s1, ⟨r1, w1⟩, h1⟩ => ?_⟩
      refine ⟨ρ1, S1, σd1, _, s1, r1, q2.ext s e1, ?_⟩
      have h1' := h1
      revert h1'
      generalize t _ σd1 S1 = rr
      intro h1'
      cases rr with
      | ok σd2 S2 => exact fun σ2 ρ2 H2 e2 s2 ⟨r2, w2⟩ => h1' σ2 ρ2 H2 e2 s2 ⟨r2, fun vs hv => by rw [w2 vs fun i hi => hv i (List.mem_append_right _ hi), w1 vs fun i hi => hv i (List.mem_append_left _ hi)]⟩
      | exc _ _ _ => exact h1'
      | bad => exact h1'
theorem fg_tup {es : List Expr} {k : Nat} {t : Mgs} {n : Nat} {is : List Nat} (hc : X.calm = true) (h : FGs X E es t is) (hn : (assignEach es X.env).length = n := by rfl) (hst : (assignEach es X.env).findIdx? (·.1) = none := by rfl) : FG X E (.Tuple es k pos) (gTp n t) is :=
  pg_imp (pg_tup hc h hn hst) fun v σ H Q ⟨ρ, S, σd, d, s, r, q, h⟩ => by
    cases d with
    | tup ds =>
      cases q with
      | tup e1 q1 =>
        unfold gTp at h
        simp only at h
        split at h
        · rename_i hl
          exact ⟨_, _, rfl, .of e1, by rw [q1.length]; exact hl, ρ, S, σd, ds, s, r, q1, h⟩
        · exact h.elim
    | _ => exact h.elim
/-- o[i] = v, by values -/
structure SetF (X : Cx) (f : D → D → D → Sto → Option Sto) : Prop where
  ex : ∃ t, PSet X t ∧ ∀ ρ S H o i v do_ di dv S' Q, Sim ρ S H → Rep H ρ o do_ → Rep H ρ i di → Rep H ρ v dv → f do_ di dv S = some S' → (∀ H', Ext ρ H ρ H' → Sim ρ S' H' → Q H') → t o i v H Q
@[simp] def ofO {α : Type} (r : Option Sto) (k : Sto → R α) : R α := match r with
  | some S => k S
  | none => .bad
@[simp] def gSbK2 (f : D → D → D → Sto → Option Sto) (v : D) (σ : Sd) (x y : D) (S2 : Sto) : R Sd := ofO (f x y v S2) (R.ok σ)
@[simp] def gSbK (f : D → D → D → Sto → Option Sto) (i : Me) (v : D) (σ : Sd) (x : D) (S1 : Sto) : R Sd := (i σ S1).bind (gSbK2 f v σ x)
@[simp] def gSb (f : D → D → D → Sto → Option Sto) (o i : Me) (v : D) (σ : Sd) (S : Sto) : R Sd := (o σ S).bind (gSbK f i v σ)
theorem fg_sub {o i : Expr} {mo mi : Me} {f : D → D → D → Sto → Option Sto} (ho : FE X E o mo) (hi : FE X E i mi) (hs : SetF X f)
    (ha : ∀ v, assign (.Subscript o i pos) X.env v = (do
      let ov ← holding [v] (eval o X.env)
      let iv ← holding [v, ov] (eval i X.env)
      standAt pos
      holding [v, ov, iv] (setItem ov iv v)
      release [v, ov, iv] []) := by intro _; rfl) : FG X E (.Subscript o i pos) (gSb f mo mi) [] := by
  obtain ⟨t, h1, h2⟩ := hs.ex
  refine pg_imp (pg_sub ho hi h1 ha) fun v σ H Q ⟨ρ, S, σd, d, s, r, q, h⟩ => ?_
  refine ⟨ρ, S, σd, s, r, (PostG.bind (rel := Rep) h).mono fun x H1 ⟨ρ1, S1, dx, e1, s1, q1, h1⟩ => ?_⟩
  refine ⟨ρ1, S1, σd, s1, r.ext s e1, (PostG.bind (rel := Rep) h1).mono fun y H2 ⟨ρ2, S2, dy, e2, s2, q2, h3⟩ => ?_⟩
  simp only [gSbK2, ofO] at h3
  cases hf : f dx dy d S2 with
  | none => rw [hf] at h3; exact h3.elim
  | some S3 =>
    rw [hf] at h3
    refine h2 ρ2 S2 H2 x y v dx dy d S3 _ s2 (q1.ext s1 e2) q2 ((q.ext s e1).ext s1 e2) hf fun H3 e3 s3 => ?_
    exact h3 σ ρ2 H3 e3 s3 ⟨((r.ext s e1).ext s1 e2).ext s2 e3, fun _ _ => rfl⟩
@[simp] def asgK (g : Mg) (σ : Sd) (d : D) (S1 : Sto) : Fl := (g d σ S1).fl Fl.nx
@[simp] def mAsg (e : Me) (g : Mg) (σ : Sd) (S : Sto) : Fl := (e σ S).fl (asgK g σ)
theorem fs_asg {tg : Expr} {g : Mg} {is : List Nat} (he : FE X E e me) (hg : FG X E tg g is) (hs : swapsWithSole [tg] e pos.line X.env = pure false := by rfl) (hw : swappedStores [tg] e X.env = pure none := by rfl)
    (h1 : (assignEach [tg] X.env).map (·.2) = [assign tg X.env] := by rfl) : FS X E (.Assign [tg] e pos) (mAsg me g) :=
  ps_imp (ps_asg he hg hs hw h1) fun D σ H ⟨ρ, S, σd, s, r, h⟩ => ⟨ρ, S, σd, s, r, (PostG.fl (rel := Rep) h).mono fun x H1 ⟨ρ1, S1, dx, e1, s1, q1, h1⟩ =>
    ⟨ρ1, S1, σd, dx, s1, r.ext s e1, q1, (PostG.fl (rel := relSd is σ) h1).mono fun σ2 H2 ⟨ρ2, S2, σd2, e2, s2, ⟨r2, _⟩, h2⟩ => h2 σ2 ρ2 H2 .refl s2 r2⟩⟩
/-- name op= e -/
structure IpF (X : Cx) (E : XK) (op : Operator) (f : Fn2) : Prop where
  ex : ∃ r, PIp X op r ∧ R2Ok E r f
@[simp] def augK2 (i : Nat) (f : Fn2) (σ : Sd) (x y : D) (S2 : Sto) : Fl := (f x y S2).fl (setK i σ)
@[simp] def augK (i : Nat) (f : Fn2) (e : Me) (σ : Sd) (x : D) (S1 : Sto) : Fl := (e σ S1).fl (augK2 i f σ x)
@[simp] def mAug (i : Nat) (f : Fn2) (e : Me) (σ : Sd) (S : Sto) : Fl := (mVar i σ S).fl (augK i f e σ)
theorem fs_aug {i : Nat} {x : Str} {op : Operator} {f : Fn2} {pos' : Pos} (hN : X.N.Nodup) (hi : X.N[i]? = some x) (hx : Loc X.env.scope x) (he : FE X E e me) (ho : IpF X E op f) (hf : X.fn x = true ∨ X.env.scope.names.lookup x = some .local := by first | exact .inl rfl | exact .inr rfl | assumption) :
    FS X E (.AugAssign (.Name x pos') op e pos) (mAug i f me) := by
  obtain ⟨r0, h1, h2⟩ := ho.ex
  refine ps_imp (ps_aug hN hi hx he h1 hf) fun D σ H ⟨ρ, S, σd, s, r, h⟩ => ?_
  unfold mAug mVar at h
  split at h
  · rename_i d ed
    rw [R.fl_ok] at h
    obtain ⟨v, e1, q⟩ := r.at_ i d ed
    refine ⟨v, e1, ρ, S, σd, s, r, (PostG.fl (rel := Rep) h).mono fun y H1 ⟨ρ1, S1, dy, e1, s1, q1, h1⟩ => ?_⟩
    refine h2 ρ1 S1 H1 v y d dy _ s1 (q.ext s e1) q1 ((PostG.fl (rel := Rep) h1).mono fun z H2 ⟨ρ2, S2, dz, e2, s2, q2, h3⟩ => ?_)
    exact h3 _ ρ2 H2 .refl s2 (((r.ext s e1).ext s1 e2).set q2 i)
  · exact h.elim
/-- o[i] op= e -/
structure GetF (X : Cx) (E : XK) (f : Fn2) : Prop where
  ex : ∃ r, PGet X r ∧ R2Ok E r f
@[simp] def nxO (σ : Sd) : Option Sto → Fl
  | some S => .nx σ S
  | none => .bad
@[simp] def aggK5 (fs : D → D → D → Sto → Option Sto) (σ : Sd) (x y z : D) (S5 : Sto) : Fl := nxO σ (fs x y z S5)
@[simp] def aggK4 (fo : Fn2) (fs : D → D → D → Sto → Option Sto) (σ : Sd) (x y a b : D) (S4 : Sto) : Fl := (fo a b S4).fl (aggK5 fs σ x y)
@[simp] def aggK3 (fo : Fn2) (fs : D → D → D → Sto → Option Sto) (e : Me) (σ : Sd) (x y a : D) (S3 : Sto) : Fl := (e σ S3).fl (aggK4 fo fs σ x y a)
@[simp] def aggK2 (fg fo : Fn2) (fs : D → D → D → Sto → Option Sto) (e : Me) (σ : Sd) (x y : D) (S2 : Sto) : Fl := (fg x y S2).fl (aggK3 fo fs e σ x y)
@[simp] def aggK (fg fo : Fn2) (fs : D → D → D → Sto → Option Sto) (i e : Me) (σ : Sd) (x : D) (S1 : Sto) : Fl := (i σ S1).fl (aggK2 fg fo fs e σ x)
@[simp] def mAugS (fg fo : Fn2) (fs : D → D → D → Sto → Option Sto) (o i e : Me) (σ : Sd) (S : Sto) : Fl := (o σ S).fl (aggK fg fo fs i e σ)
theorem fs_augS {o i : Expr} {mo mi : Me} {fg fo : Fn2} {fs : D → D → D → Sto → Option Sto} {op : Operator} {tpos : Pos} (ho : FE X E o mo) (hi : FE X E i mi) (hg : GetF X E fg) (he : FE X E e me) (hp : IpF X E op fo) (hs : SetF X fs)
    (ha : ∀ ov iv new, augStore i ov iv new = (do holding [new, ov, iv] (setItem ov iv new); release [new, ov, iv] []; pure .next) := by intros; rfl) : FS X E (.AugAssign (.Subscript o i tpos) op e pos) (mAugS fg fo fs mo mi me) := by
  obtain ⟨rg, hg1, hg2⟩ := hg.ex
  obtain ⟨rp, hp1, hp2⟩ := hp.ex
  obtain ⟨rs, hs1, hs2⟩ := hs.ex
  refine ps_imp (ps_augS ho hi hg1 he hp1 hs1 ha) fun D σ H ⟨ρ, S, σd, s, r, h⟩ => ?_
  refine ⟨ρ, S, σd, s, r, (PostG.fl (rel := Rep) h).mono fun x H1 ⟨ρ1, S1, dx, e1, s1, q1, h1⟩ => ?_⟩
  refine ⟨ρ1, S1, σd, s1, r.ext s e1, (PostG.fl (rel := Rep) h1).mono fun y H2 ⟨ρ2, S2, dy, e2, s2, q2, h2⟩ => ?_⟩
  refine hg2 ρ2 S2 H2 x y dx dy _ s2 (q1.ext s1 e2) q2 ((PostG.fl (rel := Rep) h2).mono fun a H3 ⟨ρ3, S3, da, e3, s3, q3, h3⟩ => ?_)
  have r3 := ((r.ext s e1).ext s1 e2).ext s2 e3
  refine ⟨ρ3, S3, σd, s3, r3, (PostG.fl (rel := Rep) h3).mono fun b H4 ⟨ρ4, S4, db, e4, s4, q4, h4⟩ => ?_⟩
  refine hp2 ρ4 S4 H4 a b da db _ s4 (q3.ext s3 e4) q4 ((PostG.fl (rel := Rep) h4).mono fun z H5 ⟨ρ5, S5, dz, e5, s5, q5, h5⟩ => ?_)
  simp only [aggK5, nxO] at h5
  cases hf : fs dx dy dz S5 with
  | none => rw [hf] at h5; exact h5.elim
  | some S6 =>
    rw [hf] at h5
    refine hs2 ρ5 S5 H5 x y z dx dy dz S6 _ s5 ((((q1.ext s1 e2).ext s2 e3).ext s3 e4).ext s4 e5) (((q2.ext s2 e3).ext s3 e4).ext s4 e5) q5 hf fun H6 e6 s6 => ?_
    exact h5 σ ρ5 H6 e6 s6 (((r3.ext s3 e4).ext s4 e5).ext s5 e6)
end
end FL
set_option Elab.async false
set_option linter.all false
set_option maxRecDepth 100000
set_option maxHeartbeats 4000000
/-! FL4: loops, comprehensions, defs. -/
namespace FL
open PySem PySem.Spec PyProof.Rows L2
variable [KMap]

/-! ### what a loop walks: items; the list of the store that they are read from -/
inductive Src where
  | its (ds : List D) | at_ (n : Nat) (o : O) (ds : List D)
@[simp] def Src.items : Src → List D
  | .its ds => ds
  | .at_ _ _ ds => ds
def okSrc (S : Sto) : Src → Prop
  | .its _ => True
  | .at_ n o _ => S[n]? = some o
def relSrc : Hp → List Addr → It → Src → Prop := fun H ρ J src => ∀ (i : Nat) ρ' S' H', Ext ρ H ρ' H' → Sim ρ' S' H' → okSrc S' src →
  (∀ d, src.items[i]? = some d → J.go i H' ∧ ∀ x H'', J.yld i H' x H'' → ∃ ρ'', Ext ρ' H' ρ'' H'' ∧ Sim ρ'' S' H'' ∧ Rep H'' ρ'' x d) ∧ (src.items[i]? = none → J.stop i H')
abbrev Mi := Sd → Sto → R Src
abbrev tFI (E : XK) (m : Mi) : TI := fun σ H Q => ∃ ρ S σd, Sim ρ S H ∧ SRep H ρ σ σd ∧ PostG relSrc E ρ H Q (m σd S)
abbrev FI (X : Cx) (E : XK) (tg iter : Expr) (m : Mi) : Prop := PI X tg iter (tFI E m)
theorem pi_imp {X : Cx} {tg iter : Expr} {t t' : TI} (h : PI X tg iter t) (i : ∀ σ H Q, t' σ H Q → t σ H Q) : PI X tg iter t' := ⟨fun pins s σ H Q I hw => h.run pins s σ H Q I (i _ _ _ hw)⟩
open Classical in
noncomputable def chk {α : Type} (S : Sto) (src : Src) (r b : α) : α := match src with
  | .its _ => r
  | .at_ n o _ => if S[n]? = some o then r else b
@[simp] theorem chk_its {α : Type} (S : Sto) (ds : List D) (r b : α) : chk S (.its ds) r b = r := rfl
theorem chk_lst {α : Type} {S : Sto} {n : Nat} {o : O} {ds : List D} {r b : α} (h : S[n]? = some o) : chk S (.at_ n o ds) r b = r := by
  unfold chk
  simp only
  rw [if_pos h]
theorem chk_cases {α : Type} {P : α → Prop} {S : Sto} {src : Src} {r b : α} (h : P (chk S src r b)) (hb : ¬ P b) : okSrc S src ∧ P r := by
  cases src with
  | its ds => exact ⟨trivial, h⟩
  | at_ n o ds =>
    unfold chk at h
    simp only at h
    split at h
    · exact ⟨by assumption, h⟩
    · exact absurd h hb

section
variable {X : Cx} {E : XK} {pos : Pos} {tg : Expr}
/-- the ints of a range -/
def rgD (lo : Int) (n : Nat) : List D := (List.range n).map fun (i : Nat) => .int (lo + (i : Int))
theorem rgD_get (lo : Int) (n i : Nat) : (rgD lo n)[i]? = if i < n then some (.int (lo + i)) else none := by
  unfold rgD
  rw [List.getElem?_map]
  by_cases h : i < n
  · rw [if_pos h, List.getElem?_range h]; rfl
  · rw [if_neg h, List.getElem?_eq_none (by simpa using h)]; rfl
theorem relSrc_rg {H ρ lo n} : relSrc H ρ (Itr lo n) (.its (rgD lo n)) := fun i ρ' S' H' e s _ => by
  show (∀ d, (rgD lo n)[i]? = some d → _) ∧ ((rgD lo n)[i]? = none → _)
  rw [rgD_get]
  by_cases h : i < n
  · rw [if_pos h]
    refine ⟨fun d hd => ⟨h, fun x H'' y => ?_⟩, fun z => nomatch z⟩
    cases hd
    obtain ⟨rfl, rfl⟩ := y
    exact ⟨ρ', .refl, s, .int _⟩
  · rw [if_neg h]
    exact ⟨fun d hd => (nomatch hd), fun _ => Nat.le_of_not_lt h⟩
@[simp] def rgOk (i : Int) : Bool := decide (-(2 ^ 62) ≤ i) && decide (i < 2 ^ 62)
@[simp] def fRg1 (ds : List D) (S : Sto) : R Src := match ds with
  | [.int j] => if rgOk j then .ok (.its (rgD 0 j.toNat)) S else .bad
  | _ => .bad
@[simp] def fRg2 (ds : List D) (S : Sto) : R Src := match ds with
  | [.int i, .int j] => if rgOk i && rgOk j then .ok (.its (rgD i (j - i).toNat)) S else .bad
  | _ => .bad
@[simp] def iRg (f : List D → Sto → R Src) (a : Ma) (σ : Sd) (S : Sto) : R Src := (a σ S).bind f
theorem rgOk_iff {i : Int} : rgOk i = true ↔ -(2 ^ 62) ≤ i ∧ i < 2 ^ 62 := by simp [rgOk]
theorem fi_range1 {a : Expr} {ma : Ma} {p pos : Pos} (hg : Gl X "range") (hm : X.mg "range" = none) (ha : FA X E [a] ma) (hs : starEach [a] X.env = [(false, eval a X.env)] := by rfl) : FI X E tg (.Call (.Name "range" p) [a] [] pos) (iRg fRg1 ma) :=
  pi_imp (pi_range1 hg hm ha hs) fun σ H Q ⟨ρ, S, σd, s, r, h⟩ => ⟨ρ, S, σd, s, r, (PostG.bind (rel := Reps) h).mono fun vs H1 ⟨ρ1, S1, ds, e1, s1, q1, h1⟩ => by
    unfold fRg1 at h1
    split at h1
    · cases q1 with
      | cons q1 q2 =>
        cases q2
        cases q1
        split at h1
        · rename_i hk
          have hk := rgOk_iff.mp hk
          exact ⟨_, rfl, hk.1, hk.2, h1.here s1 relSrc_rg⟩
        · exact h1.elim
    · exact h1.elim⟩
theorem fi_range2 {a b : Expr} {ma : Ma} {p pos : Pos} (hg : Gl X "range") (hm : X.mg "range" = none) (ha : FA X E [a, b] ma) (hs : starEach [a, b] X.env = [(false, eval a X.env), (false, eval b X.env)] := by rfl) (hs2 : starEach [b] X.env = [(false, eval b X.env)] := by rfl) :
    FI X E tg (.Call (.Name "range" p) [a, b] [] pos) (iRg fRg2 ma) :=
  pi_imp (pi_range2 hg hm ha hs hs2) fun σ H Q ⟨ρ, S, σd, s, r, h⟩ => ⟨ρ, S, σd, s, r, (PostG.bind (rel := Reps) h).mono fun vs H1 ⟨ρ1, S1, ds, e1, s1, q1, h1⟩ => by
    unfold fRg2 at h1
    split at h1
    · cases q1 with
      | cons q1 q2 =>
        cases q2 with
        | cons q2 q3 =>
          cases q3
          cases q1
          cases q2
          split at h1
          · rename_i hk
            simp only [Bool.and_eq_true] at hk
            have hi := rgOk_iff.mp hk.1
            have hj := rgOk_iff.mp hk.2
            exact ⟨_, _, rfl, ⟨hi.1, hi.2, hj.1, hj.2⟩, h1.here s1 relSrc_rg⟩
          · exact h1.elim
    · exact h1.elim⟩
def keyD : Key → D
  | .inl i => .int i
  | .inr x => .str x
/-- the items of a list, a tuple, a text, a walked dict -/
def strD (x : Str) : List D := x.cps.toList.map fun c => .str ⟨#[c]⟩
def fIt (d : D) (S : Sto) : R Src := match d with
  | .tup ds => .ok (.its ds) S
  | .str x => .ok (.its (strD x)) S
  | .loc n => match S[n]? with
    | some (.lst ds) => .ok (.at_ n (.lst ds) ds) S
    | some (.fK kvs) => .ok (.at_ n (.fK kvs) (kvs.map fun p => keyD p.1)) S
    | some (.fT kvs) => .ok (.at_ n (.fT kvs) (kvs.map fun p => .tup (p.1.map keyD))) S
    | _ => .bad
  | _ => .bad
@[simp] def mIt (e : Me) (σ : Sd) (S : Sto) : R Src := (e σ S).bind fIt
theorem Reps.get {H ρ} : ∀ {vs : List V} {ds : List D} {i : Nat} {d : D}, Reps H ρ vs ds → ds[i]? = some d → ∃ v, vs[i]? = some v ∧ Rep H ρ v d
  | _, _, 0, _, .cons r _, e => by
    have e : _ = _ := Option.some.inj (by simpa using e)
    exact ⟨_, rfl, e ▸ r⟩
  | _, _, i + 1, _, .cons _ t, e => by
    obtain ⟨v, e1, r⟩ := Reps.get (i := i) t (by simpa using e)
    exact ⟨v, by simpa using e1, r⟩
theorem relSrc_tup {K : PySem.W.Frag} {ρ S H a xs ds} (s : Sim ρ S H) (ha : H a = some (.tup xs)) (q : Reps H ρ xs ds) : relSrc H ρ (Itt K a) (.its ds) := fun i ρ' S' H' e s' _ => by
  have h' : SqT K H' a xs := .of (s.tup e a xs ha)
  refine ⟨fun d hd => ?_, fun hn => ⟨xs, h', ?_⟩⟩
  · obtain ⟨v, e1, r⟩ := (q.ext s e).get (show ds[i]? = some d from hd)
    refine ⟨⟨xs, v, h', e1⟩, fun x H'' y => ?_⟩
    obtain ⟨rfl, fv⟩ := y
    have := fv xs h'
    rw [e1] at this; cases this
    exact ⟨ρ', .refl, s', r⟩
  · rw [q.length]
    have hn : ds[i]? = none := hn
    exact List.getElem?_eq_none_iff.mp hn
theorem relSrc_lst {K : PySem.W.Frag} {ρ S H a n ds} (s : Sim ρ S H) (ha : ρ[n]? = some a) : relSrc H ρ (Itl K a) (.at_ n (.lst ds) ds) := fun i ρ' S' H' e s' hS => by
  obtain ⟨b, eb, xs, hx, q⟩ := s'.at_ n _ (show S'[n]? = some (.lst ds) from hS)
  have := prefix_get e.pre ha
  rw [eb] at this; cases this
  have h' : SqL K H' _ xs := .of hx
  refine ⟨fun d hd => ?_, fun hn => ⟨xs, h', ?_⟩⟩
  · obtain ⟨v, e1, r⟩ := q.get (show ds[i]? = some d from hd)
    refine ⟨⟨xs, v, h', e1⟩, fun x H'' y => ?_⟩
    obtain ⟨rfl, fv⟩ := y
    have := fv xs h'
    rw [e1] at this; cases this
    exact ⟨ρ', .refl, s', r⟩
  · rw [q.length]
    have hn : ds[i]? = none := hn
    exact List.getElem?_eq_none_iff.mp hn
theorem relSrc_str {ρ H x} : relSrc H ρ (Its x) (.its (strD x)) := fun i ρ' S' H' e s' _ => by
  show (∀ d, (strD x)[i]? = some d → _) ∧ ((strD x)[i]? = none → _)
  unfold strD
  rw [List.getElem?_map, Array.getElem?_toList]
  refine ⟨fun d hd => ?_, fun hn => ?_⟩
  · cases hc : x.cps[i]? with
    | none => rw [hc] at hd; cases hd
    | some c =>
      rw [hc] at hd
      cases hd
      refine ⟨?_, fun y H'' hy => ?_⟩
      · show i < x.cps.size
        rcases Nat.lt_or_ge i x.cps.size with h | h
        · exact h
        · rw [Array.getElem?_eq_none h] at hc; cases hc
      · obtain ⟨rfl, c', h1, rfl⟩ := hy
        rw [hc] at h1; cases h1
        exact ⟨ρ', .refl, s', .str _⟩
  · cases hc : x.cps[i]? with
    | none => exact Array.getElem?_eq_none_iff.mp hc
    | some c => rw [hc] at hn; cases hn
theorem keyD_rep {H ρ} (k : Key) : Rep H ρ (kV k) (keyD k) := by
  cases k with
  | inl i => exact .int _
  | inr x => exact .str _
theorem keysD_rep {H ρ} : ∀ (k : List Key), Reps H ρ (k.map kV) (k.map keyD)
  | [] => .nil
  | k :: r => .cons (keyD_rep k) (keysD_rep r)
theorem RepF.len {κ : Type} {H ρ} : ∀ {gs : List (κ × V)} {fs : List (κ × D)}, RepF H ρ gs fs → gs.length = fs.length
  | _, _, .nil => rfl
  | _, _, .cons _ t => congrArg (· + 1) (RepF.len t)
theorem RepF.get {κ : Type} {H ρ} : ∀ {gs : List (κ × V)} {fs : List (κ × D)} {i : Nat} {p : κ × D}, RepF H ρ gs fs → fs[i]? = some p → ∃ v, gs[i]? = some (p.1, v) ∧ Rep H ρ v p.2
  | _, _, 0, p, .cons (a := x) (b := y) hr _, h => by
    have h : y = p := Option.some.inj (by simpa using h)
    subst h
    exact ⟨x.2, by rw [← hr.1]; rfl, hr.2⟩
  | _, _, i + 1, p, .cons _ t, h => by
    obtain ⟨v, e1, r⟩ := RepF.get (i := i) t (by simpa using h)
    exact ⟨v, by simpa using e1, r⟩
theorem lt_of_some {α : Type} {l : List α} {i : Nat} {a : α} (h : l[i]? = some a) : i < l.length := by
  rcases Nat.lt_or_ge i l.length with h' | h'
  · exact h'
  · rw [List.getElem?_eq_none h'] at h; cases h
theorem relSrc_fK {ρ S H a n kvs} (s : Sim ρ S H) (ha : ρ[n]? = some a) {od ks} (hk : H a = some (.frz od (.dK ks))) (q : RepF H ρ ks kvs) : relSrc H ρ (Itk a od ks) (.at_ n (.fK kvs) (kvs.map fun p => keyD p.1)) := fun i ρ' S' H' e s' hS' => by
  have hk' := e.fz _ _ _ hk
  have hl : ks.length = kvs.length := q.len
  show (∀ d, (kvs.map fun p => keyD p.1)[i]? = some d → _) ∧ ((kvs.map fun p => keyD p.1)[i]? = none → _)
  rw [List.getElem?_map]
  cases hi : kvs[i]? with
  | none => exact ⟨fun d hd => (nomatch hd), fun _ => ⟨hk', by rw [hl]; exact List.getElem?_eq_none_iff.mp hi⟩⟩
  | some p =>
    refine ⟨fun d hd => ?_, fun z => (nomatch z)⟩
    cases hd
    obtain ⟨v, e1, r⟩ := q.get hi
    refine ⟨⟨hk', lt_of_some e1⟩, fun x H'' y => ?_⟩
    obtain ⟨rfl, k, v', e2, rfl⟩ := y
    rw [e1] at e2; cases e2
    exact ⟨ρ', .refl, s', keyD_rep _⟩
theorem relSrc_fT {ρ S H a n kvs} (s : Sim ρ S H) (ha : ρ[n]? = some a) {od ks} (hk : H a = some (.frz od (.dT ks))) (q : RepF H ρ ks kvs) : relSrc H ρ (Itkt a od ks) (.at_ n (.fT kvs) (kvs.map fun p => .tup (p.1.map keyD))) := fun i ρ' S' H' e s' hS' => by
  have hk' := e.fz _ _ _ hk
  have hl : ks.length = kvs.length := q.len
  show (∀ d, (kvs.map fun p => D.tup (p.1.map keyD))[i]? = some d → _) ∧ ((kvs.map fun p => D.tup (p.1.map keyD))[i]? = none → _)
  rw [List.getElem?_map]
  cases hi : kvs[i]? with
  | none => exact ⟨fun d hd => (nomatch hd), fun _ => ⟨hk', by rw [hl]; exact List.getElem?_eq_none_iff.mp hi⟩⟩
  | some p =>
    refine ⟨fun d hd => ?_, fun z => (nomatch z)⟩
    cases hd
    obtain ⟨v, e1, r⟩ := q.get hi
    refine ⟨⟨hk', lt_of_some e1⟩, fun x H'' y => ?_⟩
    obtain ⟨rfl, k, v', b, e2, rfl, hb⟩ := y
    rw [e1] at e2; cases e2
    exact ⟨ρ', .refl, s', .tup hb (keysD_rep _)⟩
theorem pi_or {iter : Expr} {t t' : TI} (h : PI X tg iter t) (h' : PI X tg iter t') : PI X tg iter (fun σ H R => t σ H R ∨ t' σ H R) := ⟨fun pins s σ H R I hw => hw.elim (h.run pins s σ H R I) (h'.run pins s σ H R I)⟩
theorem fi_any {e : Expr} {m : Me} (he : FE X E e m) : FI X E tg e (mIt m) := by
  refine pi_imp (pi_or (pi_tup he) (pi_or (pi_list he) (pi_or (pi_str he) (pi_keys he)))) fun σ H Q ⟨ρ, S, σd, s, r, h⟩ => ?_
  unfold mIt at h
  cases hm : m σd S with
  | ok d S1 =>
    have go : ∀ {P : VK}, (∀ v ρ' H', Ext ρ H ρ' H' → Sim ρ' S1 H' → Rep H' ρ' v d → PostG relSrc E ρ' H' Q (fIt d S1) → P v H') → tF E m σ H P := fun {P} k =>
      ⟨ρ, S, σd, s, r, by rw [hm]; exact fun v ρ' H' e s' q => k v ρ' H' e s' q (by rw [hm] at h; exact PostG.weak h e)⟩
    cases d with
    | tup ds =>
      refine .inl (go fun v ρ' H' e s' q hf => ?_)
      cases q with
      | tup ha q => exact ⟨_, rfl, ⟨_, .of ha⟩, hf.here s' (relSrc_tup s' ha q)⟩
    | str x =>
      refine .inr (.inr (.inl (go fun v ρ' H' e s' q hf => ?_)))
      cases q
      exact ⟨x, rfl, hf.here s' relSrc_str⟩
    | loc n =>
      rw [hm] at h
      cases hS : S1[n]? with
      | none =>
        simp only [R.bind, fIt, hS] at h
        exact h.elim
      | some o =>
        cases o with
        | lst ds =>
          refine .inr (.inl (go fun v ρ' H' e s' q hf => ?_))
          cases q with
          | loc ha =>
            simp only [fIt, hS] at hf
            obtain ⟨b, eb, xs, hx, q⟩ := s'.at_ n _ hS
            rw [ha] at eb; cases eb
            exact ⟨_, rfl, ⟨xs, .of hx⟩, hf.here s' (relSrc_lst s' ha)⟩
        | fK kvs =>
          refine .inr (.inr (.inr (go fun v ρ' H' e s' q hf => ?_)))
          cases q with
          | loc ha =>
            simp only [fIt, hS] at hf
            obtain ⟨b, eb, od, ks, hx, q⟩ := s'.at_ n _ hS
            rw [ha] at eb; cases eb
            exact ⟨_, _, rfl, .inl ⟨ks, hx, hf.here s' (relSrc_fK s' ha hx q)⟩⟩
        | fT kvs =>
          refine .inr (.inr (.inr (go fun v ρ' H' e s' q hf => ?_)))
          cases q with
          | loc ha =>
            simp only [fIt, hS] at hf
            obtain ⟨b, eb, od, ks, hx, q⟩ := s'.at_ n _ hS
            rw [ha] at eb; cases eb
            exact ⟨_, _, rfl, .inr ⟨ks, hx, hf.here s' (relSrc_fT s' ha hx q)⟩⟩
        | _ =>
          simp only [R.bind, fIt, hS] at h
          exact h.elim
    | _ => rw [hm] at h; exact h.elim
  | exc c fs S1 => exact .inl ⟨ρ, S, σd, s, r, by rw [hm]; rw [hm] at h; exact h⟩
  | bad => rw [hm] at h; exact h.elim

/-! ### for -/
noncomputable def forL (src : Src) (g : Mg) (b : Ms) : List D → Sd → Sto → Fl
  | [], σ, S => chk S src (.nx σ S) .bad
  | d :: ds, σ, S => chk S src ((g d σ S).fl fun σ1 S1 => match b σ1 S1 with
    | .nx σ2 S2 => forL src g b ds σ2 S2
    | .cont σ2 S2 => forL src g b ds σ2 S2
    | .brk σ2 S2 => .nx σ2 S2
    | r => r) .bad
@[simp] noncomputable def forK (g : Mg) (b : Ms) (σ : Sd) (src : Src) (S1 : Sto) : Fl := forL src g b src.items σ S1
@[simp] noncomputable def mFor (i : Mi) (g : Mg) (b : Ms) (σ : Sd) (S : Sto) : Fl := (i σ S).fl (forK g b σ)
theorem fs_for {iter : Expr} {body : List Stmt} {mi : Mi} {g : Mg} {is : List Nat} {b : Ms} (hp : PassesOwn (model X.prog X.w) X.A X.env X.xe) (hc : X.calm = true) (hi : FI X E tg iter mi) (hg : FG X E tg g is) (hb : FSs X E body b)
    (hs : ∀ x, foldedSetIterable iter X.env x = pure x := by intro _; rfl) : FS X E (.For tg iter body [] pos) (mFor mi g b) := by
  refine ps_imp (ps_for hp hc hi hg hb hs) fun D σ H ⟨ρ, S, σd, s, r, h⟩ => ?_
  refine ⟨ρ, S, σd, s, r, (PostG.fl (rel := relSrc) h).mono fun J H1 ⟨ρ1, S1, src, e1, s1, q1, h1⟩ => ?_⟩
  refine ⟨fun i m σ' H' => m = src.items.length - i ∧ i ≤ src.items.length ∧ ∃ ρ' S' σd', Ext ρ1 H1 ρ' H' ∧ Sim ρ' S' H' ∧ SRep H' ρ' σ' σd' ∧ PostS E ρ' H' D (forL src g b (src.items.drop i) σd' S'),
    ⟨_, rfl, Nat.zero_le _, ρ1, S1, σd, .refl, s1, r.ext s e1, h1⟩, ?_⟩
  rintro i m σ' H' ⟨rfl, hi, ρ', S', σd', e', s', r', h'⟩
  cases hd : src.items[i]? with
  | none =>
    have hl : src.items.length ≤ i := List.getElem?_eq_none_iff.mp hd
    rw [List.drop_of_length_le hl] at h'
    unfold forL at h'
    obtain ⟨ok, h'⟩ := chk_cases h' (fun z => z)
    exact .inl ⟨(q1 i ρ' S' H' e' s' ok).2 hd, h' σ' ρ' H' .refl s' r'⟩
  | some d =>
    have hl : i < src.items.length := by
      rcases Nat.lt_or_ge i src.items.length with h | h
      · exact h
      · rw [List.getElem?_eq_none h] at hd; cases hd
    have ed : src.items.drop i = d :: src.items.drop (i + 1) := by
      rw [List.drop_eq_getElem_cons hl]
      rw [List.getElem?_eq_getElem hl] at hd
      rw [Option.some.inj hd]
    rw [ed] at h'
    unfold forL at h'
    obtain ⟨ok, h'⟩ := chk_cases h' (fun z => z)
    obtain ⟨go, yl⟩ := (q1 i ρ' S' H' e' s' ok).1 d hd
    refine .inr ⟨go, fun σ2 H2 => ∃ ρ2 S2 σd2, Ext ρ1 H1 ρ2 H2 ∧ Sim ρ2 S2 H2 ∧ SRep H2 ρ2 σ2 σd2 ∧ PostS E ρ2 H2 D (forL src g b (src.items.drop (i + 1)) σd2 S2), fun σ2 H2 w => ⟨_, by omega, rfl, hl, w⟩, fun x H'' y => ?_⟩
    obtain ⟨ρ'', e'', s'', rx⟩ := yl x H'' y
    refine ⟨ρ'', S', σd', d, s'', r'.ext s' e'', rx, (PostG.fl (rel := relSd is σ') (PostS.weak h' e'')).mono fun σ3 H3 ⟨ρ3, S3, σd3, e3, s3, ⟨r3, _⟩, h3⟩ => ?_⟩
    refine ⟨ρ3, S3, σd3, s3, r3, ?_⟩
    have e13 := (e'.trans e'').trans e3
    revert h3
    cases hb' : b σd3 S3 with
    | nx σ4 S4 => exact fun h3 σ5 ρ5 H5 e5 s5 r5 => ⟨ρ5, S4, σ4, e13.trans e5, s5, r5, PostS.weak h3 e5⟩
    | cont σ4 S4 => exact fun h3 σ5 ρ5 H5 e5 s5 r5 => ⟨ρ5, S4, σ4, e13.trans e5, s5, r5, PostS.weak h3 e5⟩
    | brk σ4 S4 => exact fun h3 => h3
    | ret d S4 => exact fun h3 => h3
    | exc _ _ _ => exact fun h3 => h3
    | bad => exact fun h3 => h3
end
end FL
set_option Elab.async false
set_option linter.all false
set_option maxRecDepth 100000
set_option maxHeartbeats 4000000
/-! FL5: comprehensions, while, defs. -/
namespace FL
open PySem PySem.Spec PyProof.Rows L2
variable [KMap]

/-! ### list comprehensions -/
def wipeD (σ : Sd) : List Nat → Sd
  | [] => σ
  | v :: vs => (wipeD σ vs).set v none
theorem SRep.wipe {H ρ σ σd} (r : SRep H ρ σ σd) : ∀ vs : List Nat, SRep H ρ (L2.wipe σ vs) (wipeD σd vs)
  | [] => r
  | v :: vs => by
    have ih := SRep.wipe r vs
    refine ⟨by simp [wipeD, L2.wipe, ih.len], fun k x h => ?_⟩
    have h : ((wipeD σd vs).set v none)[k]? = some (some x) := h
    show ∃ w, ((L2.wipe σ vs).set v none)[k]? = some (some w) ∧ _
    by_cases hk : v = k
    · subst hk
      by_cases hl : v < (wipeD σd vs).length
      · rw [List.getElem?_set_self hl] at h; cases h
      · rw [List.getElem?_eq_none (by simpa using hl)] at h; cases h
    · rw [List.getElem?_set_ne hk] at h
      rw [List.getElem?_set_ne hk]
      exact ih.at_ k x h
theorem set_wipe (x : Option V) : ∀ (ws : List Nat) (τ : L2.St) (i : Nat), (L2.wipe (τ.set i none) ws).set i x = (L2.wipe τ ws).set i x
  | [], τ, i => by show (τ.set i none).set i x = τ.set i x; rw [List.set_set]
  | w :: ws, τ, i => by
    show ((L2.wipe (τ.set i none) ws).set w none).set i x = ((L2.wipe τ ws).set w none).set i x
    by_cases hw : w = i
    · subst hw; rw [List.set_set, List.set_set, set_wipe x ws τ w]
    · rw [List.set_comm _ _ hw, set_wipe x ws τ i, List.set_comm _ _ (Ne.symm hw)]
theorem wipe_wipe : ∀ (vs : List Nat) (σ : L2.St), L2.wipe (L2.wipe σ vs) vs = L2.wipe σ vs
  | [], _ => rfl
  | v :: vs, σ => by
    show (L2.wipe ((L2.wipe σ vs).set v none) vs).set v none = (L2.wipe σ vs).set v none
    rw [set_wipe none vs _ v, wipe_wipe vs σ]
noncomputable def compL (src : Src) (g : Mg) (t : Mt) (e : Me) (vs : List Nat) (σ : Sd) : List D → List D → Sto → R D
  | [], acc, S => chk S src (.ok (.loc S.length) (S ++ [.lst acc])) .bad
  | d :: ds, acc, S => chk S src ((g d (wipeD σ vs) S).bind fun σ1 S1 => (t σ1 S1).bind fun k S2 => match k with
    | true => (e σ1 S2).bind fun y S3 => if acc.length < sizeLine then compL src g t e vs σ ds (acc ++ [y]) S3 else .bad
    | false => compL src g t e vs σ ds acc S2) .bad
@[simp] noncomputable def compK (g : Mg) (t : Mt) (e : Me) (vs : List Nat) (σ : Sd) (src : Src) (S1 : Sto) : R D := compL src g t e vs σ src.items [] S1
@[simp] noncomputable def mComp (i : Mi) (g : Mg) (t : Mt) (e : Me) (vs : List Nat) (σ : Sd) (S : Sto) : R D := (i σ S).bind (compK g t e vs σ)
@[simp] def mYes (_ : Sd) (S : Sto) : R Bool := .ok true S
structure FTs (X : Cx) (E : XK) (ifs : List Expr) (t : Mt) : Prop where
  pts : PTs X ifs (tFT E t)
theorem pts_imp {X : Cx} {ifs : List Expr} {t t' : TT} (h : PTs X ifs t) (i : ∀ σ H Q, t' σ H Q → t σ H Q) : PTs X ifs t' := ⟨fun pins s σ H Q I hw => h.run pins s σ H Q I (i _ _ _ hw)⟩
theorem fts_nil {X : Cx} {E : XK} : FTs X E [] mYes := ⟨pts_imp pts_nil fun σ H Q ⟨ρ, S, σd, s, r, h⟩ => h.here s rfl⟩
theorem fts_one {X : Cx} {E : XK} {c : Expr} {t : Mt} (h : FT X E c t) : FTs X E [c] t := ⟨pts_one h⟩
/-- an untracked list becomes the store's last object -/
theorem Sim.adopt {ρ S H a xs ds} (s : Sim ρ S H) (hn : a ∉ ρ) (ha : H a = some (.lst xs)) (q : Reps H ρ xs ds) : Sim (ρ ++ [a]) (S ++ [.lst ds]) H := by
  have pre : ρ <+: ρ ++ [a] := List.prefix_append _ _
  refine ⟨by simp [s.len], ?_, fun n w h => ?_⟩
  · refine List.nodup_append.mpr ⟨s.nd, by simp, fun b hb c hc => ?_⟩
    rintro rfl
    exact hn (by rw [← List.mem_singleton.mp hc]; exact hb)
  · by_cases hn : n < S.length
    · rw [List.getElem?_append_left hn] at h
      obtain ⟨b, e1, r⟩ := s.at_ n w h
      exact ⟨b, prefix_get pre e1, r.mono pre (fun _ _ h => h) fun u h => h⟩
    · have hn2 : n = S.length := by
        have : n < (S ++ [O.lst ds]).length := by
          rcases Nat.lt_or_ge n (S ++ [O.lst ds]).length with h' | h'
          · exact h'
          · rw [List.getElem?_eq_none h'] at h; cases h
        simp at this; omega
      subst hn2
      have h2 : O.lst ds = w := by simpa using h
      subst h2
      exact ⟨a, by rw [← s.len]; simp, xs, ha, q.mono pre fun _ _ h => h⟩
theorem Reps.snoc {H ρ v d} : ∀ {vs ds}, Reps H ρ vs ds → Rep H ρ v d → Reps H ρ (vs ++ [v]) (ds ++ [d])
  | _, _, .nil, r => .cons r .nil
  | _, _, .cons q t, r => .cons q (Reps.snoc t r)
section
variable {X : Cx} {E : XK} {pos : Pos}
theorem tLc_of {wi : Mi} {g : Mg} {t : Mt} {e : Me} {vs is : List Nat} (hv : ∀ i ∈ is, i ∈ vs) {σ H Q} (h : tF E (mComp wi g t e vs) σ H Q) : tLc (tFI E wi) (tGg E g is) (tFT E t) (tF E e) vs σ H Q := by
  obtain ⟨ρ, S, σd, s, r, h⟩ := h
  refine ⟨ρ, S, σd, s, r, (PostG.bind (rel := relSrc) h).mono fun J H1 ⟨ρ1, S1, src, e1, s1, q1, h1⟩ => ?_⟩
  intro A hA
  have r1 := r.ext s e1
  -- behind the new list
  have ext0 : ∀ {ρ' H' xs}, Ext ρ1 H1 ρ' H' → A ∉ ρ' → Ext ρ1 H1 ρ' (upd H' A (.lst xs)) := fun {ρ' H' xs} e hn => ⟨e.pre, e.new, fun b o hb hn2 => by
    rw [upd_ne (ne_of_none hb hA)]; exact e.fr b o hb hn2, fun b o u hb => by rw [upd_ne (ne_of_none hb hA)]; exact e.fz b o u hb⟩
  have simA : ∀ {ρ' S' H' xs}, Sim ρ' S' H' → A ∉ ρ' → (∀ ys, H' A ≠ some (.tup ys)) → Sim ρ' S' (upd H' A (.lst xs)) := fun {ρ' S' H' xs} s hn ht => by
    refine ⟨s.len, s.nd, fun n o ho => ?_⟩
    obtain ⟨b, eb, ro⟩ := s.at_ n o ho
    have hb : b ≠ A := fun z => hn (by rw [← z]; exact List.mem_of_getElem? eb)
    refine ⟨b, eb, ro.mono (List.prefix_refl _) (fun c ys hc => ?_) fun u hu => by rw [upd_ne hb]; exact hu⟩
    rw [upd_ne (fun z => ht ys (by rw [← z]; exact hc))]; exact hc
  have repA : ∀ {ρ' H' xs v d}, (∀ ys, H' A ≠ some (.tup ys)) → Rep H' ρ' v d → Rep (upd H' A (.lst xs)) ρ' v d := fun {ρ' H' xs v d} ht q => q.mono (List.prefix_refl _) fun c ys hc => by
    rw [upd_ne (fun z => ht ys (by rw [← z]; exact hc))]; exact hc
  have repsA : ∀ {ρ' H' xs v d}, (∀ ys, H' A ≠ some (.tup ys)) → Reps H' ρ' v d → Reps (upd H' A (.lst xs)) ρ' v d := fun {ρ' H' xs v d} ht q => q.mono (List.prefix_refl _) fun c ys hc => by
    rw [upd_ne (fun z => ht ys (by rw [← z]; exact hc))]; exact hc
  have nA1 : A ∉ ρ1 := s1.fresh hA
  refine ⟨fun i m H' => m = src.items.length - i ∧ i ≤ src.items.length ∧ ∃ ρ' S' acc xs, Ext ρ1 H1 ρ' H' ∧ Sim ρ' S' H' ∧ A ∉ ρ' ∧ H' A = some (.lst xs) ∧ Reps H' ρ' xs acc ∧
      PostG Rep E ρ1 H1 Q (compL src g t e vs σd (src.items.drop i) acc S'), ⟨_, rfl, Nat.zero_le _, ρ1, S1, [], [], ext0 .refl nA1, simA s1 nA1 (fun ys z => by rw [hA] at z; cases z), nA1, upd_same, .nil, h1⟩, ?_⟩
  rintro i m H' ⟨rfl, hi, ρ', S', acc, xs, e', s', nA, hAx, qa, h'⟩
  cases hd : src.items[i]? with
  | none =>
    have hl : src.items.length ≤ i := List.getElem?_eq_none_iff.mp hd
    rw [List.drop_of_length_le hl] at h'
    unfold compL at h'
    obtain ⟨ok, h'⟩ := chk_cases (P := PostG Rep E ρ1 H1 Q) h' (fun z => z)
    refine .inl ⟨(q1 i ρ' S' H' e' s' ok).2 hd, h' _ (ρ' ++ [A]) H' ⟨e'.pre.trans (List.prefix_append _ _), fun b hb hn => ?_, fun b o hb hn => e'.fr b o hb hn, e'.fz⟩ (s'.adopt nA hAx qa) (.loc (by rw [← s'.len]; simp))⟩
    rcases List.mem_append.mp hb with hb | hb
    · exact e'.new b hb hn
    · rw [List.mem_singleton.mp hb]; exact hA
  | some d =>
    have hl : i < src.items.length := by
      rcases Nat.lt_or_ge i src.items.length with h | h
      · exact h
      · rw [List.getElem?_eq_none h] at hd; cases hd
    have ed : src.items.drop i = d :: src.items.drop (i + 1) := by
      rw [List.drop_eq_getElem_cons hl]
      rw [List.getElem?_eq_getElem hl] at hd
      rw [Option.some.inj hd]
    rw [ed] at h'
    unfold compL at h'
    obtain ⟨ok, h'⟩ := chk_cases (P := PostG Rep E ρ1 H1 Q) h' (fun z => z)
    obtain ⟨go, yl⟩ := (q1 i ρ' S' H' e' s' ok).1 d hd
    refine .inr ⟨go, fun H2 => ∃ ρ2 S2 acc xs, Ext ρ1 H1 ρ2 H2 ∧ Sim ρ2 S2 H2 ∧ A ∉ ρ2 ∧ H2 A = some (.lst xs) ∧ Reps H2 ρ2 xs acc ∧ PostG Rep E ρ1 H1 Q (compL src g t e vs σd (src.items.drop (i + 1)) acc S2),
      fun H2 w => ⟨_, by omega, rfl, hl, w⟩, fun x H2 y => ?_⟩
    obtain ⟨ρ2, e2, s2, rx⟩ := yl x H2 y
    have keep : ∀ {ρ3 H3}, Ext ρ' H' ρ3 H3 → A ∉ ρ3 ∧ H3 A = some (.lst xs) := fun {ρ3 H3} e3 => ⟨fun z => (by
      have := e3.new A z nA
      rw [hAx] at this
      cases this), e3.fr A _ hAx nA⟩
    have e12 := e'.trans e2
    refine ⟨ρ2, S', wipeD σd vs, d, s2, ((r1.wipe vs).ext s1 e12), rx, (PostG.bind' (rel := relSd is (wipe σ vs)) h' e12).mono fun σ3 H3 ⟨ρ3, S3, σd3, e3, s3, ⟨r3, w3⟩, h3⟩ => ⟨(w3 vs hv).trans (wipe_wipe vs σ), ?_⟩⟩
    have hb := PostG.bind' (rel := relB) h3 (e12.trans e3)
    refine ⟨ρ3, S3, σd3, s3, r3, hb.mono ?_⟩
    rintro k H4 ⟨ρ4, S4, k', e4, s4, q4, h4⟩
    cases (show k = k' from q4)
    cases k with
    | false =>
      rw [if_neg Bool.false_ne_true]
      have e24 := (e2.trans e3).trans e4
      exact ⟨ρ4, S4, acc, xs, e'.trans e24, s4, (keep e24).1, (keep e24).2, qa.ext s' e24, h4⟩
    | true =>
      rw [if_pos rfl]
      refine ⟨ρ4, S4, σd3, s4, r3.ext s3 e4, (PostG.bind' (rel := Rep) h4 ((e12.trans e3).trans e4)).mono fun y H5 ⟨ρ5, S5, dy, e5, s5, q5, h5⟩ => ?_⟩
      have e25 := ((e2.trans e3).trans e4).trans e5
      obtain ⟨nA5, hA5⟩ := keep e25
      have qa5 := qa.ext s' e25
      have ht : ∀ ys, H5 A ≠ some (.tup ys) := fun ys z => by rw [hA5] at z; cases z
      split at h5
      · rename_i hz
        exact ⟨xs, hA5, by rw [qa.length]; exact hz, ρ5, S5, acc ++ [dy], xs ++ [y], ext0 (e'.trans e25) nA5, simA s5 nA5 ht, nA5, upd_same, (repsA ht qa5).snoc (repA ht q5), h5⟩
      · exact h5.elim
theorem fe_lc {elt tg iter : Expr} {ifs : List Expr} {scope : Scope} {own : List (Str × Nat)} {mi : Mi} {g : Mg} {t : Mt} {me : Me} {is : List Nat} (hc : X.calm = true) (hN : X.N.Nodup) (hi : FI X E tg iter mi) (ok : BlkOk X.N X.env.scope scope own)
    (hg : ∀ (s : Shared) (H : Hp) (C : Addr) (cl : List (Str × Addr)) (fp : List Addr), FG (X.blk s H scope (compEnvC scope cl C X.env) fp) E tg g is) (ht : ∀ (s : Shared) (H : Hp) (C : Addr) (cl : List (Str × Addr)) (fp : List Addr), FTs (X.blk s H scope (compEnvC scope cl C X.env) fp) E ifs t)
    (he : ∀ (s : Shared) (H : Hp) (C : Addr) (cl : List (Str × Addr)) (fp : List Addr), FE (X.blk s H scope (compEnvC scope cl C X.env) fp) E elt me) (hv : ∀ i ∈ is, i ∈ own.map (·.2) := by decide) (hs : ∀ x, foldedSetIterable iter X.env x = pure x := by intro _; rfl) :
    FE X E (.ListComp elt [⟨tg, iter, ifs, 0⟩] scope pos) (mComp mi g t me (own.map (·.2))) :=
  pe_imp (pe_lc hc hN hi ok hg (fun s H C cl fp => (ht s H C cl fp).pts) he hs) fun σ H Q h => tLc_of hv h
theorem fs_setLc {i : Nat} {y : Str} {py : Pos} {elt tg iter : Expr} {ifs : List Expr} {scope : Scope} {own : List (Str × Nat)} {spos : Pos} {mi : Mi} {g : Mg} {t : Mt} {me : Me} {is : List Nat} (hc : X.calm = true) (hN : X.N.Nodup) (hy : X.N[i]? = some y) (hyl : X.env.scope.names.lookup y = some .local)
    (hsw : swapsWith (.ListComp elt [⟨tg, iter, ifs, 0⟩] scope pos) (some (.Name y py)) spos.line X.env = pure true) (hi : FI X E tg iter mi) (ok : BlkOk X.N X.env.scope scope own)
    (hg : ∀ (s : Shared) (H : Hp) (C : Addr) (cl : List (Str × Addr)) (fp : List Addr), FG (X.blk s H scope (compEnvC scope cl C X.env) fp) E tg g is) (ht : ∀ (s : Shared) (H : Hp) (C : Addr) (cl : List (Str × Addr)) (fp : List Addr), FTs (X.blk s H scope (compEnvC scope cl C X.env) fp) E ifs t)
    (he : ∀ (s : Shared) (H : Hp) (C : Addr) (cl : List (Str × Addr)) (fp : List Addr), FE (X.blk s H scope (compEnvC scope cl C X.env) fp) E elt me) (hv : ∀ i ∈ is, i ∈ own.map (·.2) := by decide) (hs : ∀ x, foldedSetIterable iter X.env x = pure x := by intro _; rfl) :
    FS X E (.Assign [.Name y py] (.ListComp elt [⟨tg, iter, ifs, 0⟩] scope pos) spos) (mSet i (mComp mi g t me (own.map (·.2)))) := by
  refine ps_imp (ps_setLc hc hN hy hyl hsw hi ok hg (fun s H C cl fp => (ht s H C cl fp).pts) he hs) fun D σ H ⟨ρ, S, σd, s, r, h⟩ => ?_
  refine tLc_of (Q := fun x H1 => gName i x σ H1 D.nx) hv ⟨ρ, S, σd, s, r, (PostG.fl (rel := Rep) h).mono fun x H1 ⟨ρ1, S1, dx, e1, s1, q1, h1⟩ => ?_⟩
  exact h1 _ ρ1 H1 .refl s1 ((r.ext s e1).set q1 i)
end

/-! ### while -/
noncomputable def whileF (t : Mt) (b : Ms) : Nat → Sd → Sto → Fl
  | 0, _, _ => .bad
  | n + 1, σ, S => (t σ S).fl fun k S1 => match k with
    | false => .nx σ S1
    | true => match b σ S1 with
      | .nx σ2 S2 => whileF t b n σ2 S2
      | .cont σ2 S2 => whileF t b n σ2 S2
      | .brk σ2 S2 => .nx σ2 S2
      | r => r
open Classical in
/-- with as many turns as it wants -/
noncomputable def mWhile (t : Mt) (b : Ms) (σ : Sd) (S : Sto) : Fl := if h : ∃ n, whileF t b n σ S ≠ .bad then whileF t b h.choose σ S else .bad
theorem whileF_more {t : Mt} {b : Ms} : ∀ {n m : Nat} {σ S}, whileF t b n σ S ≠ .bad → n ≤ m → whileF t b m σ S = whileF t b n σ S
  | 0, _, _, _, h, _ => absurd rfl h
  | n + 1, 0, _, _, _, hm => absurd hm (by omega)
  | n + 1, m + 1, σ, S, h, hm => by
    unfold whileF at h ⊢
    cases ht : t σ S with
    | exc _ _ _ => rfl
    | bad => rfl
    | ok k S1 =>
      rw [ht] at h
      simp only [R.fl_ok] at h ⊢
      cases k with
      | false => rfl
      | true =>
        simp only at h ⊢
        cases hb : b σ S1 with
        | nx σ2 S2 => rw [hb] at h; exact whileF_more (n := n) h (by omega)
        | cont σ2 S2 => rw [hb] at h; exact whileF_more (n := n) h (by omega)
        | _ => rfl
theorem mWhile_of {t : Mt} {b : Ms} {n : Nat} {σ S} (h : whileF t b n σ S ≠ .bad) : mWhile t b σ S = whileF t b n σ S := by
  have ex : ∃ n, whileF t b n σ S ≠ .bad := ⟨n, h⟩
  unfold mWhile
  rw [dif_pos ex]
  rcases Nat.le_total ex.choose n with hn | hn
  · exact (whileF_more ex.choose_spec hn).symm
  · exact whileF_more h hn
theorem mWhile_ex {t : Mt} {b : Ms} {σ S} (h : mWhile t b σ S ≠ .bad) : ∃ n, mWhile t b σ S = whileF t b n σ S := by
  unfold mWhile at h ⊢
  by_cases ex : ∃ n, whileF t b n σ S ≠ .bad
  · rw [dif_pos ex]; exact ⟨_, rfl⟩
  · rw [dif_neg ex] at h; exact absurd rfl h
section
variable {X : Cx} {E : XK} {pos : Pos}
theorem fs_while {c : Expr} {body : List Stmt} {t : Mt} {b : Ms} (hp : PassesOwn (model X.prog X.w) X.A X.env X.xe) (hc : FT X E c t) (hb : FSs X E body b) : FS X E (.While c body [] pos) (mWhile t b) := by
  refine ps_imp (ps_while hp hc hb) fun D σ H ⟨ρ, S, σd, s, r, h⟩ => ?_
  have hne : mWhile t b σd S ≠ .bad := fun z => by rw [z] at h; exact h
  obtain ⟨n, en⟩ := mWhile_ex hne
  rw [en] at h
  refine ⟨fun m σ' H' => ∃ ρ' S' σd', Sim ρ' S' H' ∧ SRep H' ρ' σ' σd' ∧ PostS E ρ' H' D (whileF t b m σd' S'), ⟨n, ρ, S, σd, s, r, h⟩, ?_⟩
  rintro m σ' H' ⟨ρ', S', σd', s', r', h'⟩
  cases m with
  | zero => exact h'.elim
  | succ m =>
    unfold whileF at h'
    refine ⟨ρ', S', σd', s', r', (PostG.fl (rel := relB) h').mono fun k H1 ⟨ρ1, S1, k', e1, s1, q1, h1⟩ => ?_⟩
    cases (show k = k' from q1)
    cases k with
    | false => rw [if_neg Bool.false_ne_true]; exact h1 σ' ρ1 H1 .refl s1 (r'.ext s' e1)
    | true =>
      rw [if_pos rfl]
      refine ⟨fun σ2 H2 => ∃ ρ2 S2 σd2, Sim ρ2 S2 H2 ∧ SRep H2 ρ2 σ2 σd2 ∧ PostS E ρ2 H2 D (whileF t b m σd2 S2), fun σ2 H2 w => ⟨m, Nat.lt_succ_self _, w⟩, ρ1, S1, σd', s1, r'.ext s' e1, ?_⟩
      revert h1
      cases hb' : b σd' S1 with
      | nx σ4 S4 => exact fun h3 σ5 ρ5 H5 e5 s5 r5 => ⟨ρ5, S4, σ4, s5, r5, PostS.weak h3 e5⟩
      | cont σ4 S4 => exact fun h3 σ5 ρ5 H5 e5 s5 r5 => ⟨ρ5, S4, σ4, s5, r5, PostS.weak h3 e5⟩
      | brk σ4 S4 => exact fun h3 => h3
      | ret d S4 => exact fun h3 => h3
      | exc _ _ _ => exact fun h3 => h3
      | bad => exact fun h3 => h3
end

/-! ### defs -/
mutual
def D.und (k : Nat) : D → Bool
  | .tup ds => D.unds k ds
  | .loc n => decide (n < k)
  | _ => true
def D.unds (k : Nat) : List D → Bool
  | [] => true
  | d :: ds => d.und k && D.unds k ds
end
def O.und (k : Nat) : O → Bool
  | .lst ds => D.unds k ds
  | .dK kvs => kvs.all fun p => p.2.und k
  | .dT kvs => kvs.all fun p => p.2.und k
  | .ins _ ds => D.unds k ds
  | .fK kvs => kvs.all fun p => p.2.und k
  | .fT kvs => kvs.all fun p => p.2.und k
mutual
theorem Rep.narrow {H ρ ρ'} (hp : ρ <+: ρ') : ∀ {v d}, Rep H ρ' v d → d.und ρ.length = true → Rep H ρ v d
  | _, _, .non, _ => .non
  | _, _, .bl _, _ => .bl _
  | _, _, .int _, _ => .int _
  | _, _, .str _, _ => .str _
  | _, _, .ty _, _ => .ty _
  | _, _, .tup e q, h => .tup e (Reps.narrow hp q (by simpa only [D.und] using h))
  | _, _, .loc (n := n) e, h => by
    have hn : n < ρ.length := by simpa only [D.und, decide_eq_true_eq] using h
    obtain ⟨t, rfl⟩ := hp
    rw [List.getElem?_append_left hn] at e
    exact .loc e
theorem Reps.narrow {H ρ ρ'} (hp : ρ <+: ρ') : ∀ {v d}, Reps H ρ' v d → D.unds ρ.length d = true → Reps H ρ v d
  | _, _, .nil, _ => .nil
  | _, _, .cons r t, h => by
    simp only [D.unds, Bool.and_eq_true] at h
    exact .cons (Rep.narrow hp r h.1) (Reps.narrow hp t h.2)
end
mutual
theorem Rep.und {H ρ} : ∀ {v d}, Rep H ρ v d → d.und ρ.length = true
  | _, _, .non => rfl
  | _, _, .bl _ => rfl
  | _, _, .int _ => rfl
  | _, _, .str _ => rfl
  | _, _, .ty _ => rfl
  | _, _, .tup e q => by simp only [D.und]; exact Reps.und q
  | _, _, .loc (n := n) e => by
    have hn : n < ρ.length := by
      rcases Nat.lt_or_ge n ρ.length with h | h
      · exact h
      · rw [List.getElem?_eq_none h] at e; cases e
    simp only [D.und, decide_eq_true_eq]; exact hn
theorem Reps.und {H ρ} : ∀ {v d}, Reps H ρ v d → D.unds ρ.length d = true
  | _, _, .nil => rfl
  | _, _, .cons r t => by simp only [D.unds, Bool.and_eq_true]; exact ⟨Rep.und r, Reps.und t⟩
end
theorem RepF.narrow {κ : Type} {H ρ ρ'} (hp : ρ <+: ρ') : ∀ {gs : List (κ × V)} {fs : List (κ × D)}, RepF H ρ' gs fs → (fs.all fun p => p.2.und ρ.length) = true → RepF H ρ gs fs
  | _, _, .nil, _ => .nil
  | _, _, .cons ⟨e, r⟩ t, h => by
    simp only [List.all_cons, Bool.and_eq_true] at h
    exact .cons ⟨e, r.narrow hp h.1⟩ (RepF.narrow hp t h.2)
theorem RepF.und {κ : Type} {H ρ} : ∀ {gs : List (κ × V)} {fs : List (κ × D)}, RepF H ρ gs fs → (fs.all fun p => p.2.und ρ.length) = true
  | _, _, .nil => rfl
  | _, _, .cons ⟨e, r⟩ t => by
    simp only [List.all_cons, Bool.and_eq_true]
    exact ⟨r.und, RepF.und t⟩
theorem RepO.narrow {H ρ ρ' a o} (hp : ρ <+: ρ') (h : RepO H ρ' a o) (hb : o.und ρ.length = true) : RepO H ρ a o := by
  cases o with
  | lst ds => obtain ⟨xs, e, q⟩ := h; exact ⟨xs, e, q.narrow hp hb⟩
  | dK kvs => obtain ⟨xs, e, q⟩ := h; exact ⟨xs, e, q.narrow hp hb⟩
  | dT kvs => obtain ⟨xs, e, q⟩ := h; exact ⟨xs, e, q.narrow hp hb⟩
  | ins C fs => obtain ⟨dx, xs, e, n, q⟩ := h; exact ⟨dx, xs, e, n, q.narrow hp hb⟩
  | fK fs => obtain ⟨dx, xs, e, q⟩ := h; exact ⟨dx, xs, e, q.narrow hp hb⟩
  | fT fs => obtain ⟨dx, xs, e, q⟩ := h; exact ⟨dx, xs, e, q.narrow hp hb⟩
theorem RepO.und {H ρ a o} (h : RepO H ρ a o) : o.und ρ.length = true := by
  cases o with
  | lst ds => obtain ⟨xs, e, q⟩ := h; exact q.und
  | dK kvs => obtain ⟨xs, e, q⟩ := h; exact q.und
  | dT kvs => obtain ⟨xs, e, q⟩ := h; exact q.und
  | ins C fs => obtain ⟨dx, xs, e, n, q⟩ := h; exact q.und
  | fK fs => obtain ⟨dx, xs, e, q⟩ := h; exact q.und
  | fT fs => obtain ⟨dx, xs, e, q⟩ := h; exact q.und
def keptOk (S S' : Sto) : Prop := S.length ≤ S'.length ∧ ∀ i < S.length, S'[i]? = S[i]? ∨ ∃ o, S'[i]? = some o ∧ o.und S.length = true
open Classical in
/-- behind a def: what it has made and nobody knows is dropped -/
noncomputable def trim (S : Sto) (d : D) (S' : Sto) : R D :=
  if keptOk S S' then
    (if d.und S.length = true then .ok d (S'.take S.length) else match d with
      | .loc n => (match S'[n]? with
        | some o => if o.und S.length = true then .ok (.loc S.length) (S'.take S.length ++ [o]) else .ok d S'
        | none => .ok d S')
      | d => .ok d S')
  else .ok d S'
theorem Sim.take {ρ S ρ' S' H H'} (s : Sim ρ S H) (s' : Sim ρ' S' H') (e : Ext ρ H ρ' H') (k : keptOk S S') : Sim ρ (S'.take S.length) H' := by
  refine ⟨by rw [List.length_take, Nat.min_eq_left k.1, s.len], s.nd, fun n o ho => ?_⟩
  have hn : n < S.length := by
    rcases Nat.lt_or_ge n S.length with h | h
    · exact h
    · rw [List.getElem?_eq_none (by rw [List.length_take]; omega)] at ho; cases ho
  rw [List.getElem?_take_of_lt hn] at ho
  obtain ⟨a, ea, ro⟩ := s'.at_ n o ho
  have hb : o.und ρ.length = true := by
    rcases k.2 n hn with z | ⟨o', z, hb⟩
    · rw [ho] at z
      obtain ⟨a', _, ro'⟩ := s.at_ n o z.symm
      exact ro'.und
    · rw [ho] at z; cases z; rw [s.len]; exact hb
  have hp := e.pre
  refine ⟨a, ?_, ro.narrow hp hb⟩
  obtain ⟨t, rfl⟩ := hp
  rw [List.getElem?_append_left (by rw [s.len]; exact hn)] at ea
  exact ea
theorem trim_post {E : XK} {ρ S H ρ' S' H' v d Q} (s : Sim ρ S H) (e : Ext ρ H ρ' H') (s' : Sim ρ' S' H') (r : Rep H' ρ' v d) (h : PostG Rep E ρ H Q (trim S d S')) : Q v H' := by
  have go : PostG Rep E ρ H Q (.ok d S') → Q v H' := fun h => h v ρ' H' e s' r
  unfold trim at h
  split at h
  · rename_i k
    split at h
    · rename_i hb
      exact h v ρ H' ⟨List.prefix_refl _, fun _ z n => absurd z n, e.fr, e.fz⟩ (s.take s' e k) (r.narrow e.pre (by rw [s.len]; exact hb))
    · split at h
      · rename_i n hb
        split at h
        · rename_i o ho
          split at h
          · rename_i hob
            cases r with
            | @loc a _ ea =>
              have hn : ¬ n < S.length := by simpa only [D.und, decide_eq_true_eq] using hb
              obtain ⟨a', ea', ro⟩ := s'.at_ n o ho
              rw [ea] at ea'; cases ea'
              have na : a ∉ ρ := fun z => by
                obtain ⟨j, hj, rfl⟩ := List.getElem_of_mem z
                have ej : ρ'[j]? = some ρ[j] := prefix_get e.pre (List.getElem?_eq_getElem hj)
                have : j = n := (List.getElem?_inj (by
                  have := List.IsPrefix.length_le e.pre; omega) s'.nd).mp (by rw [ej, ea])
                rw [s.len] at hj
                omega
              have hH : H a = none := e.new a (List.mem_of_getElem? ea) na
              have st := s.take s' e k
              have e2 : Ext ρ H (ρ ++ [a]) H' := ⟨List.prefix_append _ _, fun b hb2 hn2 => by
                rcases List.mem_append.mp hb2 with hb2 | hb2
                · exact absurd hb2 hn2
                · rw [List.mem_singleton.mp hb2]; exact hH, e.fr, e.fz⟩
              have ro2 : RepO H' (ρ ++ [a]) a o := (ro.narrow e.pre (by rw [s.len]; exact hob)).mono (List.prefix_append _ _) (fun _ _ h => h) fun _ h => h
              refine h _ (ρ ++ [a]) H' e2 ⟨by rw [List.length_append, List.length_append, st.len] <;> rfl, ?_, fun m w hw => ?_⟩ (.loc (by rw [← s.len]; simp))
              · refine List.nodup_append.mpr ⟨s.nd, by simp, fun b hb c hc => ?_⟩
                rintro rfl
                exact na (by rw [← List.mem_singleton.mp hc]; exact hb)
              · have hlen : (S'.take S.length).length = S.length := by rw [List.length_take, Nat.min_eq_left k.1]
                by_cases hm : m < (S'.take S.length).length
                · rw [List.getElem?_append_left hm] at hw
                  obtain ⟨b, e1, rr⟩ := st.at_ m w hw
                  exact ⟨b, prefix_get (List.prefix_append _ _) e1, rr.mono (List.prefix_append _ _) (fun _ _ h => h) fun u h => h⟩
                · have hm2 : m = (S'.take S.length).length := by
                    have : m < (S'.take S.length ++ [o]).length := by
                      rcases Nat.lt_or_ge m (S'.take S.length ++ [o]).length with h' | h'
                      · exact h'
                      · rw [List.getElem?_eq_none h'] at hw; cases hw
                    rw [List.length_append] at this
                    simp at this; simp at hm ⊢; omega
                  subst hm2
                  have h2 : o = w := by simpa using hw
                  subst h2
                  exact ⟨a, by rw [hlen, ← s.len]; simp, ro2⟩
          · exact go h
        · exact go h
      · exact go h
  · exact go h
@[simp] noncomputable def trimF (S : Sto) : Fl → R D
  | .nx _ S' => trim S .non S'
  | .ret d S' => trim S d S'
  | .exc c fs S' => .exc c fs S'
  | _ => .bad
/-- a def of n parameters and N names -/
noncomputable def runB (n N : Nat) (m : Ms) (ds : List D) (S : Sto) : R D := if ds.length = n then trimF S (m (ds.map some ++ List.replicate (N - n) none) S) else .bad
theorem start_rep {N : List Str} {vs : List V} {ds : List D} {H ρ} (q : Reps H ρ vs ds) (hn : ds.length ≤ N.length) : SRep H ρ (L2.start N vs) (ds.map some ++ List.replicate (N.length - ds.length) none) := by
  have hl := q.length
  refine ⟨by unfold L2.start; simp [hl], fun i d h => ?_⟩
  have hi : i < ds.length := by
    rcases Nat.lt_or_ge i ds.length with h' | h'
    · exact h'
    · rw [List.getElem?_append_right (by simpa using h'), List.getElem?_replicate] at h
      split at h <;> cases h
  rw [List.getElem?_append_left (by simpa using hi), List.getElem?_map] at h
  cases hd : ds[i]? with
  | none => rw [hd] at h; cases h
  | some d' =>
    rw [hd] at h
    cases h
    obtain ⟨v, e1, r⟩ := q.get hd
    refine ⟨v, ?_, r⟩
    unfold L2.start
    rw [List.getElem?_append_left (by rw [List.length_map, hl]; exact hi), List.getElem?_map, e1]
    rfl
theorem runB_len {n N m ds S E ρ H Q} (h : PostG Rep E ρ H Q (runB n N m ds S)) : ds.length = n := by
  unfold runB at h
  split at h
  · assumption
  · exact h.elim
theorem runB_body {E : XK} {N : List Str} {n m ds S ρ H Q vs} (s : Sim ρ S H) (q : Reps H ρ vs ds) (hN : n ≤ N.length) (h : PostG Rep E ρ H Q (runB n N.length m ds S)) :
    tFS E m { nx := fun _ H' => Q .non H', rt := Q } (L2.start N vs) H := by
  have hl := runB_len h
  unfold runB at h
  rw [if_pos hl] at h
  subst hl
  refine ⟨ρ, S, _, s, start_rep q hN, ?_⟩
  revert h
  cases hm : m (ds.map some ++ List.replicate (N.length - ds.length) none) S with
  | nx σ' S' => exact fun h σ1 ρ1 H1 e1 s1 r1 => trim_post s e1 s1 .non h
  | ret d S' => exact fun h v ρ1 H1 e1 s1 r1 => trim_post s e1 s1 r1 h
  | brk _ _ => exact fun h => h.elim
  | cont _ _ => exact fun h => h.elim
  | exc _ _ _ => exact fun h => h
  | bad => exact fun h => h
theorem pass0' {X : Cx} {E : XK} : Passes CX0 X E := fun _ _ _ _ _ _ _ h => h.elim
section
variable {P : Program} {w : World} {K : PySem.W.Frag} {mg : Str → Option Value} {base : Heap}
/-- a def that lets no exception out does what its body's reading tells -/
theorem okF {x qual : Str} {st : Stmt} {f : Addr} {fd : FuncData} {N ps : List Str} {k : Nat} {m : Ms} (F : Fun K x qual st f fd) (S : FnScope N ps (defScope st)) (hN : ps.length ≤ N.length)
    (hbody : ∀ (cdv : Value) (A : Around) (outer : List Env) (s : Shared) (H : Hp) (E : XK), Room k (A.deeper (envOfC qual (defScope st) s.heap.objs.size f cdv)) →
      FSs (cxOf CX0 P w K mg base N qual (defScope st) f cdv A outer s H E).nox E (defBody st) m) : FnOk P w K mg base CX0 (k + 1) f fd ps (spF (runB ps.length N.length m)) := by
  refine F.ok S (fun vs H Q E ⟨ρ, S, ds, s, q, h⟩ => ?_) fun cdv A outer s H vs Q E hr ⟨ρ, S, ds, s', q, h⟩ => ⟨_, hbody cdv A outer s H E hr, runB_body s' q hN h⟩
  rw [q.length]
  exact runB_len h
end
end FL
set_option Elab.async false
set_option linter.all false
set_option maxRecDepth 100000
set_option maxHeartbeats 4000000
/-! FL6: operators, built-ins, subscripts. -/
namespace FL
open PySem PySem.Spec PyProof.Rows L2
variable [KMap]
theorem OpR.or {X : Cx} {g : Value → Value → Sem Value} {r r' : R2} (h : OpR X g r) (h' : OpR X g r') : OpR X g (fun x y H Q => r x y H Q ∨ r' x y H Q) := fun pins s σ H x y v u Q I rx ry q =>
  q.elim (h pins s σ H x y v u Q I rx ry) (h' pins s σ H x y v u Q I rx ry)
theorem CallR.or {X : Cx} {g : Value} {r r' : List V → Hp → VK → Prop} (h : CallR X g r) (h' : CallR X g r') : CallR X g (fun x H Q => r x H Q ∨ r' x H Q) := fun pins s σ H x v Q I rx q =>
  q.elim (h pins s σ H x v Q I rx) (h' pins s σ H x v Q I rx)
section
variable {X : Cx} {E : XK}
/-! ### arithmetic -/
noncomputable def fAdd : Fn2
  | .int i, .int j, S => .ok (.int (i + j)) S
  | .str a, .str b, S => if a.length + b.length ≤ sizeLine then .ok (.str (a ++ b)) S else .bad
  | .tup a, .tup b, S => if a.length + b.length ≤ sizeLine then .ok (.tup (a ++ b)) S else .bad
  | .loc n, .loc m, S => match S[n]?, S[m]? with
    | some (.lst a), some (.lst b) => if a.length + b.length ≤ sizeLine then .ok (.loc S.length) (S ++ [.lst (a ++ b)]) else .bad
    | _, _ => .bad
  | _, _, _ => .bad
theorem Reps.append {H ρ} : ∀ {vs ds us es}, Reps H ρ vs ds → Reps H ρ us es → Reps H ρ (vs ++ us) (ds ++ es)
  | _, _, _, _, .nil, s => s
  | _, _, _, _, .cons r t, s => .cons r (Reps.append t s)
theorem op_addF : OpF X E (binaryOp .Add) fAdd := by
  refine ⟨_, OpR.or op_add (OpR.or op_add_str (OpR.or op_catA op_cat)), fun ρ S H x y dx dy Q s rx ry h => ?_⟩
  unfold fAdd at h
  split at h
  · cases rx; cases ry
    exact .inl ⟨_, _, rfl, rfl, h.here s (.int _)⟩
  · cases rx; cases ry
    split at h
    · rename_i hz
      exact .inr (.inl ⟨_, _, rfl, rfl, hz, h.here s (.str _)⟩)
    · exact h.elim
  · split at h
    · rename_i hz
      cases rx with
      | tup ex qx =>
        cases ry with
        | tup ey qy =>
          refine .inr (.inr (.inl ⟨_, _, _, _, rfl, rfl, .of ex, .of ey, by rw [qx.length, qy.length]; exact hz, fun hx => ?_, fun hx hy => ?_, fun hx hy => new_tup s (qx.append qy) h⟩))
          · subst hx
            cases qx
            exact h.here s (.tup ey qy)
          · subst hy
            cases qy
            rw [List.append_nil] at h
            exact h.here s (.tup ex qx)
    · exact h.elim
  · split at h
    · rename_i ha hb
      split at h
      · rename_i hz
        cases rx with
        | loc ex =>
          cases ry with
          | loc ey =>
            obtain ⟨a, ea, xs, hx, qx⟩ := s.at_ _ _ ha
            obtain ⟨b, eb, ys, hy, qy⟩ := s.at_ _ _ hb
            rw [ex] at ea; cases ea
            rw [ey] at eb; cases eb
            exact .inr (.inr (.inr ⟨_, _, xs, ys, rfl, rfl, hx, hy, by rw [qx.length, qy.length]; exact hz, new_lst s (qx.append qy) h⟩))
      · exact h.elim
    · exact h.elim
  · exact h.elim
@[simp] def smallI (i : Int) : Bool := decide (-(2 ^ 64) < i) && decide (i < 2 ^ 64)
@[simp] def fInt2 (C : Int → Int → Bool) (g : Int → Int → D) (x y : D) (S : Sto) : R D := match x, y with
  | .int i, .int j => if C i j = true then .ok (g i j) S else .bad
  | _, _ => .bad
theorem op_int2 {op : Value → Value → Sem Value} {C : Int → Int → Prop} {Cb : Int → Int → Bool} {g : Int → Int → V} {gd : Int → Int → D} (h : OpR X op (rI C g)) (hC : ∀ i j, Cb i j = true → C i j) (hg : ∀ H ρ i j, Rep H ρ (g i j) (gd i j)) : OpF X E op (fInt2 Cb gd) := by
  refine ⟨_, h, fun ρ S H x y dx dy Q s rx ry h => ?_⟩
  unfold fInt2 at h
  split at h
  · cases rx; cases ry
    split at h
    · exact ⟨_, _, rfl, rfl, hC _ _ (by assumption), h.here s (hg _ _ _ _)⟩
    · exact h.elim
  · exact h.elim
@[simp] def fInt20 (g : Int → Int → D) (x y : D) (S : Sto) : R D := match x, y with
  | .int i, .int j => .ok (g i j) S
  | _, _ => .bad
theorem op_int20 {op : Value → Value → Sem Value} {g : Int → Int → V} {gd : Int → Int → D} (h : OpR X op (rI0 g)) (hg : ∀ H ρ i j, Rep H ρ (g i j) (gd i j)) : OpF X E op (fInt20 gd) := by
  refine ⟨_, h, fun ρ S H x y dx dy Q s rx ry h => ?_⟩
  unfold fInt20 at h
  split at h
  · cases rx; cases ry
    exact ⟨_, _, rfl, rfl, h.here s (hg _ _ _ _)⟩
  · exact h.elim
abbrev fSub : Fn2 := fInt20 fun i j => .int (i - j)
theorem op_subF : OpF X E (binaryOp .Sub) fSub := op_int20 op_sub fun _ _ _ _ => .int _
abbrev fMul : Fn2 := fInt2 (fun i j => smallI i || smallI j) fun i j => .int (i * j)
theorem op_mulF : OpF X E (binaryOp .Mult) fMul := op_int2 op_mul (fun i j h => by
  simp only [smallI, Bool.or_eq_true, Bool.and_eq_true, decide_eq_true_eq] at h
  exact h) fun _ _ _ _ => .int _
abbrev fDiv : Fn2 := fInt2 (fun _ j => decide (j ≠ 0) && decide (j.natAbs < 1073741824)) fun i j => .int (i.fdiv j)
theorem op_divF : OpF X E (binaryOp .FloorDiv) fDiv := op_int2 op_fdivN (fun i j h => by
  simp only [Bool.and_eq_true, decide_eq_true_eq] at h
  exact h) fun _ _ _ _ => .int _
abbrev fMod : Fn2 := fInt2 (fun _ j => decide (j ≠ 0)) fun i j => .int (i.fmod j)
theorem op_modF : OpF X E (binaryOp .Mod) fMod := op_int2 op_modN (fun i j h => by simpa using h) fun _ _ _ _ => .int _
@[simp] def powOk (i j : Int) : Bool := decide (0 ≤ j) && decide (j ≤ 1000000) && decide (i.natAbs < 2 ^ 64)
theorem powOk_of {i j : Int} (h : powOk i j = true) : CPow i j := by
  simp only [powOk, Bool.and_eq_true, decide_eq_true_eq] at h
  exact ⟨h.1.1, h.1.2, h.2⟩
abbrev fPow : Fn2 := fInt2 powOk fun i j => .int (i ^ j.toNat)
theorem op_powF : OpF X E (binaryOp .Pow) fPow := op_int2 op_pow (fun _ _ h => powOk_of h) fun _ _ _ _ => .int _
abbrev fShl : Fn2 := fInt2 powOk fun i j => .int (i * 2 ^ j.toNat)
theorem op_shlF : OpF X E (binaryOp .LShift) fShl := op_int2 op_shl (fun _ _ h => powOk_of h) fun _ _ _ _ => .int _
@[simp] def fNeg (x : D) (S : Sto) : R D := match x with
  | .int i => .ok (.int (-i)) S
  | _ => .bad
theorem un_negF : UnF X E (unaryOp .USub) fNeg := by
  refine ⟨_, un_neg, fun ρ S H x dx Q s rx h => ?_⟩
  unfold fNeg at h
  split at h
  · cases rx; exact ⟨_, rfl, h.here s (.int _)⟩
  · exact h.elim
/-! ### == of data -/
mutual
def D.py : D → Option PyData
  | .non => some .none
  | .bl b => some (.bool b)
  | .int i => some (.int i)
  | .str x => some (.str x)
  | .tup ds => (D.pys ds).map .tuple
  | .ty _ => none
  | .loc _ => none
def D.pys : List D → Option (List PyData)
  | [] => some []
  | d :: ds => (D.py d).bind fun x => (D.pys ds).map (x :: ·)
end
/-- .. a list of the store at the outside, too -/
def D.pyS (S : Sto) : D → Option PyData
  | .loc n => match S[n]? with
    | some (.lst ds) => (D.pys ds).map .list
    | _ => none
  | d => d.py
mutual
theorem Rep.dp {K : PySem.W.Frag} {H ρ} : ∀ {d : D} {v : V} {x : PyData}, Rep H ρ v d → d.py = some x → Dp K H v x
  | .non, _, _, .non, e => by cases e; exact .non
  | .bl _, _, _, .bl _, e => by cases e; exact .bl _
  | .int _, _, _, .int _, e => by cases e; exact .int _
  | .str _, _, _, .str _, e => by cases e; exact .str _
  | .ty _, _, _, .ty _, e => by cases e
  | .loc _, _, _, .loc _, e => by cases e
  | .tup ds, _, _, .tup ha q, e => by
    simp only [D.py, Option.map_eq_some_iff] at e
    obtain ⟨xs, e, rfl⟩ := e
    exact .tup (.of ha) (Reps.dp q e)
theorem Reps.dp {K : PySem.W.Frag} {H ρ} : ∀ {ds : List D} {vs : List V} {xs : List PyData}, Reps H ρ vs ds → D.pys ds = some xs → DpAll K H vs xs
  | [], _, _, .nil, e => by cases e; exact .nil
  | d :: ds, _, _, .cons r t, e => by
    simp only [D.pys, Option.bind_eq_some_iff, Option.map_eq_some_iff] at e
    obtain ⟨x, e1, xs, e2, rfl⟩ := e
    exact .cons (Rep.dp r e1) (Reps.dp t e2)
end
theorem Rep.dpS {K : PySem.W.Frag} {H ρ S d v x} (s : Sim ρ S H) (r : Rep H ρ v d) (e : d.pyS S = some x) : Dp K H v x := by
  cases d with
  | loc n =>
    simp only [D.pyS] at e
    split at e
    · rename_i ds hS
      simp only [Option.map_eq_some_iff] at e
      obtain ⟨xs, e, rfl⟩ := e
      cases r with
      | loc ea =>
        obtain ⟨a, ea', ys, hy, q⟩ := s.at_ _ _ hS
        rw [ea] at ea'; cases ea'
        exact .lst (.of hy) (q.dp e)
    · cases e
  | _ => exact Rep.dp r e
/-- what == says of two data -/
def D.eqv (S : Sto) (x y : D) : Option Bool := (x.pyS S).bind fun a => (y.pyS S).bind fun b => if (SeqAt.shaped a && SeqAt.shaped b) = true then some (PyData.eqv a b) else none
def fEqv (neg : Bool) : Fn2
  | .int i, .int j, S => .ok (.bl (neg ^^ decide (i = j))) S
  | .str i, .str j, S => .ok (.bl (neg ^^ decide (i = j))) S
  | .bl i, .bl j, S => .ok (.bl (neg ^^ decide (i = j))) S
  | x, y, S => match D.eqv S x y with
    | some b => .ok (.bl (neg ^^ b)) S
    | none => .bad
abbrev fEq : Fn2 := fEqv false
abbrev fNe : Fn2 := fEqv true
theorem eqv_some {S x y b} (h : D.eqv S x y = some b) : ∃ a c, x.pyS S = some a ∧ y.pyS S = some c ∧ SeqAt.shaped a = true ∧ SeqAt.shaped c = true ∧ b = PyData.eqv a c := by
  simp only [D.eqv, Option.bind_eq_some_iff] at h
  obtain ⟨a, ha, c, hc, h⟩ := h
  split at h
  · rename_i hs
    simp only [Bool.and_eq_true] at hs
    cases h
    exact ⟨a, c, ha, hc, hs.1, hs.2, rfl⟩
  · cases h
theorem op_eqF (hu : X.A.units + 64 < cLine) : OpF X E (compareOp .Eq) fEq := by
  refine ⟨_, OpR.or op_eq (op_eqD hu), fun ρ S H x y dx dy Q s rx ry h => ?_⟩
  unfold fEq fEqv at h
  split at h
  · cases rx; cases ry
    refine .inl ⟨rfl, ?_⟩
    have := h.here s (.bl _)
    simpa using this
  · cases rx; cases ry
    refine .inl ⟨rfl, ?_⟩
    have := h.here s (.bl _)
    simpa using this
  · cases rx; cases ry
    refine .inl ⟨rfl, ?_⟩
    have := h.here s (.bl _)
    simpa using this
  · split at h
    · rename_i b hb
      obtain ⟨a, c, h1, h2, h3, h4, rfl⟩ := eqv_some hb
      have := h.here s (.bl _)
      exact .inr ⟨a, c, rx.dpS s h1, ry.dpS s h2, h3, h4, by simpa using this⟩
    · exact h.elim
theorem op_neF (hu : X.A.units + 64 < cLine) : OpF X E (compareOp .NotEq) fNe := by
  refine ⟨_, OpR.or op_ne (op_neD hu), fun ρ S H x y dx dy Q s rx ry h => ?_⟩
  unfold fNe fEqv at h
  split at h
  · cases rx; cases ry
    refine .inl ⟨rfl, ?_⟩
    have := h.here s (.bl _)
    simpa using this
  · cases rx; cases ry
    refine .inl ⟨rfl, ?_⟩
    have := h.here s (.bl _)
    simpa using this
  · cases rx; cases ry
    refine .inl ⟨rfl, ?_⟩
    have := h.here s (.bl _)
    simpa using this
  · split at h
    · rename_i b hb
      obtain ⟨a, c, h1, h2, h3, h4, rfl⟩ := eqv_some hb
      have := h.here s (.bl _)
      exact .inr ⟨a, c, rx.dpS s h1, ry.dpS s h2, h3, h4, by simpa using this⟩
    · exact h.elim
abbrev fLt : Fn2 := fInt20 fun i j => .bl (decide (i < j))
abbrev fLe : Fn2 := fInt20 fun i j => .bl (decide (i ≤ j))
abbrev fGt : Fn2 := fInt20 fun i j => .bl (decide (j < i))
abbrev fGe : Fn2 := fInt20 fun i j => .bl (decide (j ≤ i))
theorem op_ltF : OpF X E (compareOp .Lt) fLt := op_int20 op_lt fun _ _ _ _ => .bl _
theorem op_leF : OpF X E (compareOp .LtE) fLe := op_int20 op_le fun _ _ _ _ => .bl _
theorem op_gtF : OpF X E (compareOp .Gt) fGt := op_int20 op_gt fun _ _ _ _ => .bl _
theorem op_geF : OpF X E (compareOp .GtE) fGe := op_int20 op_ge fun _ _ _ _ => .bl _
@[simp] def D.isNon : D → Bool
  | .non => true
  | _ => false
@[simp] def fIs (neg : Bool) (x y : D) (S : Sto) : R D := if y.isNon = true then .ok (.bl (neg ^^ x.isNon)) S else .bad
theorem isNon_rep {H ρ v d} (r : Rep H ρ v d) : d.isNon = decide (v = .non) := by cases r <;> rfl
theorem op_isF : OpF X E (compareOp .Is) (fIs false) := by
  refine ⟨_, op_isN, fun ρ S H x y dx dy Q s rx ry h => ?_⟩
  unfold fIs at h
  split at h
  · rename_i hn
    rw [isNon_rep ry, decide_eq_true_eq] at hn
    have := h.here s (.bl _)
    rw [isNon_rep rx] at this
    exact ⟨hn, by simpa using this⟩
  · exact h.elim
theorem op_isNotF : OpF X E (compareOp .IsNot) (fIs true) := by
  refine ⟨_, op_notN, fun ρ S H x y dx dy Q s rx ry h => ?_⟩
  unfold fIs at h
  split at h
  · rename_i hn
    rw [isNon_rep ry, decide_eq_true_eq] at hn
    have := h.here s (.bl _)
    rw [isNon_rep rx] at this
    exact ⟨hn, by simpa using this⟩
  · exact h.elim
/-! ### subscripts -/
@[simp] def fIx : Fn2
  | .loc n, .int i, S => match S[n]? with
    | some (.lst ds) => match atI ds i with
      | some d => .ok d S
      | none => .bad
    | _ => .bad
  | .tup ds, .int i, S => match atI ds i with
      | some d => .ok d S
      | none => .bad
  | _, _, _ => .bad
theorem atI_rep {H ρ vs ds i d} (q : Reps H ρ vs ds) (h : atI ds i = some d) : ∃ v, atI vs i = some v ∧ Rep H ρ v d := by
  simp only [atI, Option.bind_eq_some_iff] at h
  obtain ⟨j, h1, h2⟩ := h
  obtain ⟨v, h3, r⟩ := q.get h2
  exact ⟨v, by simp only [atI, q.length, h1]; exact h3, r⟩
theorem ix_F : IxF X E fIx := by
  refine ⟨_, IxR.or ix_list ix_tup, fun ρ S H x y dx dy Q s rx ry h => ?_⟩
  unfold fIx at h
  split at h
  · split at h
    · rename_i hS
      split at h
      · rename_i hd
        cases rx with
        | loc ea =>
          cases ry
          obtain ⟨a, ea', xs, hx, q⟩ := s.at_ _ _ hS
          rw [ea] at ea'; cases ea'
          obtain ⟨v, hv, r⟩ := atI_rep q hd
          exact .inl ⟨_, xs, _, v, rfl, rfl, .of hx, hv, h.here s r⟩
      · exact h.elim
    · exact h.elim
  · split at h
    · rename_i hd
      cases rx with
      | tup hx q =>
        cases ry
        obtain ⟨v, hv, r⟩ := atI_rep q hd
        exact .inr ⟨_, _, _, v, rfl, rfl, .of hx, hv, h.here s r⟩
    · exact h.elim
  · exact h.elim
theorem get_list : PGet X (rIxL X.K) := by
  intro pins s σ H o i ov iv Q I ro ri h
  obtain ⟨p, xs, k, z, rfl, rfl, hq, he, q⟩ := h
  cases ro
  obtain ⟨t, rfl⟩ := ri
  obtain ⟨its, r, pl, hz⟩ := I.list hq
  obtain ⟨j, h1, h2, h3, h4, h5⟩ := atI_get he
  obtain ⟨w, ew, rw'⟩ := r.get h2
  have hl := r.length
  have hn := line63
  have fin : EP X pins σ Q w s := ⟨z, H, I, rw', q⟩
  by_cases h0 : 0 ≤ k
  · have hj : k.toNat = j := by
      rw [seqIndex_of h0 h5] at h1
      exact Option.some.inj h1
    exact wpAny_getItem_list pl.isList h0 (by omega) (by rw [hj]; simpa using ew) fin
  · have hj : (k + (its.toArray.size : Int)).toNat = j := by
      rw [seqIndex_neg (by omega) h4] at h1
      rw [List.size_toArray, ← hl]
      exact Option.some.inj h1
    exact wpAny_getItem_list_neg pl.isList (by omega) (by rw [List.size_toArray] <;> omega) (by omega) (by rw [hj]; simpa using ew) fin
@[simp] def fGetL : Fn2
  | .loc n, .int i, S => match S[n]? with
    | some (.lst ds) => match atI ds i with
      | some d => .ok d S
      | none => .bad
    | _ => .bad
  | _, _, _ => .bad
theorem get_listF : GetF X E fGetL := by
  refine ⟨_, get_list, fun ρ S H x y dx dy Q s rx ry h => ?_⟩
  unfold fGetL at h
  split at h
  · split at h
    · rename_i hS
      split at h
      · rename_i hd
        cases rx with
        | loc ea =>
          cases ry
          obtain ⟨a, ea', xs, hx, q⟩ := s.at_ _ _ hS
          rw [ea] at ea'; cases ea'
          obtain ⟨v, hv, r⟩ := atI_rep q hd
          exact ⟨_, xs, _, v, rfl, rfl, .of hx, hv, h.here s r⟩
      · exact h.elim
    · exact h.elim
  · exact h.elim
@[simp] def fSetL (o i v : D) (S : Sto) : Option Sto := match o, i with
  | .loc n, .int k => match S[n]? with
    | some (.lst ds) => match ixN ds.length k with
      | some j => some (S.set n (.lst (ds.set j v)))
      | none => none
    | _ => none
  | _, _ => none
theorem Reps.set {H ρ v d} (r : Rep H ρ v d) : ∀ {vs ds} (i : Nat), Reps H ρ vs ds → Reps H ρ (vs.set i v) (ds.set i d)
  | _, _, _, .nil => .nil
  | _, _, 0, .cons _ t => .cons r t
  | _, _, i + 1, .cons q t => .cons q (Reps.set r i t)
theorem set_listF : SetF X fSetL := by
  refine ⟨_, set_list, fun ρ S H o i v do_ di dv S' Q s ro ri rv h k => ?_⟩
  unfold fSetL at h
  split at h
  · split at h
    · rename_i hS
      split at h
      · rename_i hj
        cases h
        cases ro with
        | loc ea =>
          cases ri
          obtain ⟨a, ea', xs, hx, q⟩ := s.at_ _ _ hS
          rw [ea] at ea'; cases ea'
          have tt : ∀ b ys (u : HO), H b = some (.tup ys) → (upd H _ u) b = some (.tup ys) := fun b ys u hb => by rw [upd_ne (ne_of hb hx (fun z => nomatch z))]; exact hb
          obtain ⟨e1, s1⟩ := s.set (o := .lst (_ : List D)) ea hx rfl ⟨_, upd_same, (q.set rv _).mono (List.prefix_refl _) fun b ys hb => tt b ys _ hb⟩
          exact ⟨_, xs, _, _, rfl, rfl, hx, by rw [q.length]; exact hj, k _ e1 s1⟩
      · cases h
    · cases h
  · cases h
/-! ### op= -/
@[simp] def fIpAdd : Fn2
  | .int i, .int j, S => .ok (.int (i + j)) S
  | _, _, _ => .bad
theorem ip_addF : IpF X E .Add fIpAdd := by
  refine ⟨_, ip_add, fun ρ S H x y dx dy Q s rx ry h => ?_⟩
  unfold fIpAdd at h
  split at h
  · cases rx; cases ry
    exact ⟨_, _, rfl, rfl, h.here s (.int _)⟩
  · exact h.elim
@[simp] def fIpSub : Fn2
  | .int i, .int j, S => .ok (.int (i - j)) S
  | _, _, _ => .bad
theorem ip_subF : IpF X E .Sub fIpSub := by
  refine ⟨_, ip_sub, fun ρ S H x y dx dy Q s rx ry h => ?_⟩
  unfold fIpSub at h
  split at h
  · cases rx; cases ry
    exact ⟨_, _, rfl, rfl, h.here s (.int _)⟩
  · exact h.elim
/-! ### built-ins -/
theorem reps1 {H ρ} : ∀ {vs d}, Reps H ρ vs [d] → ∃ v, vs = [v] ∧ Rep H ρ v d
  | _, _, .cons r .nil => ⟨_, rfl, r⟩
theorem reps2 {H ρ} : ∀ {vs d e}, Reps H ρ vs [d, e] → ∃ v w, vs = [v, w] ∧ Rep H ρ v d ∧ Rep H ρ w e
  | _, _, _, .cons r (.cons q .nil) => ⟨_, _, rfl, r, q⟩
@[simp] def fAbs : FnL
  | [.int i], S => .ok (.int (if i < 0 then -i else i)) S
  | _, _ => .bad
theorem call_absF : CallF X E (.builtin "abs") fAbs := by
  refine ⟨_, call_abs, fun ρ S H xs ds Q s q h => ?_⟩
  unfold fAbs at h
  split at h
  · obtain ⟨v, rfl, r⟩ := reps1 q
    cases r
    exact ⟨_, rfl, h.here s (.int _)⟩
  · exact h.elim
@[simp] def fInt : FnL
  | [.int i], S => .ok (.int i) S
  | [.bl k], S => .ok (.int (if k then 1 else 0)) S
  | _, _ => .bad
theorem call_intF : CallF X E (.type "int") fInt := by
  refine ⟨_, call_int1, fun ρ S H xs ds Q s q h => ?_⟩
  unfold fInt at h
  split at h
  · obtain ⟨v, rfl, r⟩ := reps1 q
    cases r
    exact .inl ⟨_, rfl, h.here s (.int _)⟩
  · obtain ⟨v, rfl, r⟩ := reps1 q
    cases r
    exact .inr ⟨_, rfl, h.here s (.int _)⟩
  · exact h.elim
@[simp] def fMax2 : FnL
  | [.int i, .int j], S => .ok (.int (if j > i then j else i)) S
  | _, _ => .bad
theorem call_max2F (hc : X.calm = true) : CallF X E (.builtin "max") fMax2 := by
  refine ⟨_, call_max2 hc, fun ρ S H xs ds Q s q h => ?_⟩
  unfold fMax2 at h
  split at h
  · obtain ⟨v, w, rfl, r, r'⟩ := reps2 q
    cases r; cases r'
    exact ⟨_, _, rfl, h.here s (.int _)⟩
  · exact h.elim
@[simp] def fMin2 : FnL
  | [.int i, .int j], S => .ok (.int (if j < i then j else i)) S
  | _, _ => .bad
theorem call_min2F (hc : X.calm = true) : CallF X E (.builtin "min") fMin2 := by
  refine ⟨_, call_min2 hc, fun ρ S H xs ds Q s q h => ?_⟩
  unfold fMin2 at h
  split at h
  · obtain ⟨v, w, rfl, r, r'⟩ := reps2 q
    cases r; cases r'
    exact ⟨_, _, rfl, h.here s (.int _)⟩
  · exact h.elim
noncomputable def fLen : FnL
  | [.loc n], S => match S[n]? with
    | some (.lst ds) => .ok (.int ds.length) S
    | some (.dK kvs) => .ok (.int kvs.length) S
    | some (.dT kvs) => .ok (.int kvs.length) S
    | _ => .bad
  | [.tup ds], S => .ok (.int ds.length) S
  | [.str x], S => if x.length ≤ sizeLine then .ok (.int x.length) S else .bad
  | _, _ => .bad
theorem RepF.len0 {κ : Type} {H ρ} : ∀ {gs : List (κ × V)} {fs : List (κ × D)}, RepF H ρ gs fs → gs.length = fs.length
  | _, _, .nil => rfl
  | _, _, .cons _ t => congrArg (· + 1) (RepF.len0 t)
theorem call_lenF : CallF X E (.builtin "len") fLen := by
  refine ⟨_, CallR.or call_len (CallR.or call_lenD call_len_dT), fun ρ S H xs ds Q s q h => ?_⟩
  unfold fLen at h
  split at h
  · split at h
    · rename_i hS
      obtain ⟨v, rfl, r⟩ := reps1 q
      cases r with
      | loc ea =>
        obtain ⟨a, ea', xs, hx, q⟩ := s.at_ _ _ hS
        rw [ea] at ea'; cases ea'
        exact .inl ⟨_, xs.length, rfl, .inl ⟨xs, .of hx, rfl⟩, h.here s (by rw [q.length]; exact .int _)⟩
    · rename_i hS
      obtain ⟨v, rfl, r⟩ := reps1 q
      cases r with
      | loc ea =>
        obtain ⟨a, ea', xs, hx, q⟩ := s.at_ _ _ hS
        rw [ea] at ea'; cases ea'
        exact .inr (.inl ⟨_, xs, rfl, hx, h.here s (by rw [q.len0]; exact .int _)⟩)
    · rename_i hS
      obtain ⟨v, rfl, r⟩ := reps1 q
      cases r with
      | loc ea =>
        obtain ⟨a, ea', xs, hx, q⟩ := s.at_ _ _ hS
        rw [ea] at ea'; cases ea'
        exact .inr (.inr ⟨_, xs, rfl, hx, h.here s (by rw [q.len0]; exact .int _)⟩)
    · exact h.elim
  · obtain ⟨v, rfl, r⟩ := reps1 q
    cases r with
    | tup hx q => exact .inl ⟨_, _, rfl, .inr ⟨_, .of hx, rfl⟩, h.here s (by rw [q.length]; exact .int _)⟩
  · obtain ⟨v, rfl, r⟩ := reps1 q
    cases r
    split at h
    · exact .inl ⟨_, _, rfl, ⟨by assumption, rfl⟩, h.here s (.int _)⟩
    · exact h.elim
  · exact h.elim
/-- the name of a datum's type -/
@[simp] def tyN (S : Sto) : D → Option String
  | .non => some "NoneType"
  | .bl _ => some "bool"
  | .int _ => some "int"
  | .str _ => some "str"
  | .tup _ => some "tuple"
  | .ty _ => none
  | .loc n => match S[n]? with
    | some (.lst _) => some "list"
    | some (.dK _) => some "dict"
    | some (.dT _) => some "dict"
    | _ => none
theorem tyN_of {K : PySem.W.Frag} {ρ S H v d t} (s : Sim ρ S H) (r : Rep H ρ v d) (h : tyN S d = some t) : TyX K H v (.type t) := by
  refine .base ?_
  cases r with
  | non => cases h; exact .non
  | bl _ => cases h; exact .bl _
  | int _ => cases h; exact .int _
  | str _ => cases h; exact .str _
  | ty _ => cases h
  | tup e _ => cases h; exact .tup e
  | loc ea =>
    simp only [tyN] at h
    split at h
    · rename_i hS
      obtain ⟨a, ea', xs, hx, q⟩ := s.at_ _ _ hS
      rw [ea] at ea'; cases ea'; cases h
      exact .lst hx
    · rename_i hS
      obtain ⟨a, ea', xs, hx, q⟩ := s.at_ _ _ hS
      rw [ea] at ea'; cases ea'; cases h
      exact .dK hx
    · rename_i hS
      obtain ⟨a, ea', xs, hx, q⟩ := s.at_ _ _ hS
      rw [ea] at ea'; cases ea'; cases h
      exact .dT hx
    · cases h
@[simp] def fIsi : FnL
  | [x, .ty n], S => match tyN S x with
    | some t => match kitB t n with
      | some b => .ok (.bl b) S
      | none => .bad
    | none => .bad
  | _, _ => .bad
theorem call_isiF : CallF X E (.builtin "isinstance") fIsi := by
  refine ⟨_, call_isi, fun ρ S H xs ds Q s q h => ?_⟩
  unfold fIsi at h
  split at h
  · split at h
    · rename_i ht
      split at h
      · rename_i hb
        obtain ⟨v, w, rfl, r, r'⟩ := reps2 q
        cases r'
        exact ⟨v, _, _, _, _, rfl, .ty _, tyN_of s r ht, kit_ty hb, h.here s (.bl _)⟩
      · exact h.elim
    · exact h.elim
  · exact h.elim
end
end FL
set_option Elab.async false
set_option linter.all false
set_option maxRecDepth 100000
set_option maxHeartbeats 4000000
/-! FLa: dicts, slices, chains, methods of lists, more built-ins, ranges with a step. -/
namespace FL
open PySem PySem.Spec PyProof.Rows L2
variable [KMap]
theorem MtM.mtr {X : Cx} {id : String} {r : V → List V → Hp → VK → Prop} (h : MtM X id r) : MtR X id r := h
/-! ### tables -/
section
variable {κ : Type} [DecidableEq κ]
def valD (kvs : List (κ × D)) (k : κ) : Option D := (kvs.find? fun kv => decide (kv.1 = k)).map (·.2)
def putD (kvs : List (κ × D)) (k : κ) (v : D) : List (κ × D) :=
  if (kvs.any fun kv => decide (kv.1 = k)) = true then kvs.map (fun kv => if kv.1 = k then (kv.1, v) else kv) else kvs ++ [(k, v)]
theorem RepF.val {H ρ} : ∀ {gs : List (κ × V)} {fs : List (κ × D)}, RepF H ρ gs fs → ∀ k, (∀ d, valD fs k = some d → ∃ v, valV gs k = some v ∧ Rep H ρ v d) ∧ (valD fs k = none → valV gs k = none)
  | _, _, .nil, k => ⟨fun d h => (by cases h), fun _ => rfl⟩
  | _, _, .cons (a := a) (b := b) ⟨e, r⟩ t, k => by
    have ih := RepF.val t k
    by_cases hk : a.1 = k
    · have hb : b.1 = k := by rw [← e]; exact hk
      simp only [valD, valV, List.find?_cons, hk, hb, decide_true, Option.map_some]
      exact ⟨fun d h => ⟨_, rfl, by cases h; exact r⟩, fun h => (nomatch h)⟩
    · have hb : ¬ b.1 = k := by rw [← e]; exact hk
      simp only [valD, valV, List.find?_cons, hk, hb, decide_false] at ih ⊢
      exact ih
theorem RepF.any {H ρ} : ∀ {gs : List (κ × V)} {fs : List (κ × D)}, RepF H ρ gs fs → ∀ k, (gs.any fun kv => decide (kv.1 = k)) = fs.any fun kv => decide (kv.1 = k)
  | _, _, .nil, k => rfl
  | _, _, .cons (a := a) (b := b) ⟨e, r⟩ t, k => by rw [List.any_cons, List.any_cons, RepF.any t k, e]
theorem RepF.app {H ρ} : ∀ {gs gs' : List (κ × V)} {fs fs' : List (κ × D)}, RepF H ρ gs fs → RepF H ρ gs' fs' → RepF H ρ (gs ++ gs') (fs ++ fs')
  | _, _, _, _, .nil, s => s
  | _, _, _, _, .cons r t, s => .cons r (RepF.app t s)
theorem RepF.put {H ρ v d} {gs : List (κ × V)} {fs : List (κ × D)} (q : RepF H ρ gs fs) (k : κ) (r : Rep H ρ v d) : RepF H ρ (putK gs k v) (putD fs k d) := by
  unfold putK putD
  rw [q.any k]
  split
  · induction q with
    | nil => exact .nil
    | @cons a b l1 l2 h t ih =>
      obtain ⟨e, r'⟩ := h
      refine .cons ?_ (by
        clear ih
        rename_i hx
        clear hx
        induction t with
        | nil => exact .nil
        | @cons a' b' _ _ h' t' ih' =>
          refine .cons ?_ ih'
          dsimp only
          by_cases hk : a'.1 = k
          · rw [if_pos hk, if_pos (by rw [← h'.1]; exact hk)]; exact ⟨h'.1, r⟩
          · rw [if_neg hk, if_neg (by rw [← h'.1]; exact hk)]; exact h')
      dsimp only
      by_cases hk : a.1 = k
      · rw [if_pos hk, if_pos (by rw [← e]; exact hk)]; exact ⟨e, r⟩
      · rw [if_neg hk, if_neg (by rw [← e]; exact hk)]; exact ⟨e, r'⟩
  · exact q.app (.cons ⟨rfl, r⟩ .nil)
end
/-- a key: an int or a text; a tuple of such -/
@[simp] def keyK : D → Option Key
  | .int i => some (.inl i)
  | .str x => some (.inr x)
  | _ => none
def keysK : List D → Option (List Key)
  | [] => some []
  | d :: ds => (keyK d).bind fun k => (keysK ds).map (k :: ·)
@[simp] def keyT : D → Option (List Key)
  | .tup ds => keysK ds
  | _ => none
theorem keyK_rep {H ρ v d k} (r : Rep H ρ v d) (h : keyK d = some k) : v = kV k := by
  cases d with
  | int i => cases r; cases h; rfl
  | str i => cases r; cases h; rfl
  | _ => cases h
theorem keysK_rep {H ρ} : ∀ {ds : List D} {vs : List V} {k}, Reps H ρ vs ds → keysK ds = some k → vs = k.map kV
  | [], _, _, .nil, h => by cases h; rfl
  | d :: ds, _, _, .cons r t, h => by
    simp only [keysK, Option.bind_eq_some_iff, Option.map_eq_some_iff] at h
    obtain ⟨k0, h0, ks, h1, rfl⟩ := h
    rw [keyK_rep r h0, keysK_rep t h1]
    rfl
theorem keyT_rep {H ρ v d k} (r : Rep H ρ v d) (h : keyT d = some k) : ∃ b, v = .ref b ∧ H b = some (.tup (k.map kV)) := by
  cases d with
  | tup ds =>
    cases r with
    | tup e q => rw [keysK_rep q h] at e; exact ⟨_, rfl, e⟩
  | _ => cases h
/-- what stands under a key; none where the key is no key -/
@[simp] def lookD : O → D → Option (Option D)
  | .dK kvs, y => (keyK y).map (valD kvs)
  | .fK kvs, y => (keyK y).map (valD kvs)
  | .dT kvs, y => (keyT y).map (valD kvs)
  | .fT kvs, y => (keyT y).map (valD kvs)
  | _, _ => none
@[simp] def isDO : O → Bool
  | .dK _ => true | .fK _ => true | .dT _ => true | .fT _ => true | _ => false
theorem lookD_get {ρ : List Addr} {S : Sto} {H : Hp} {a : Addr} {n : Nat} {y : V} {dy : D} {o : O} {r : Option D} (s : Sim ρ S H) (ha : ρ[n]? = some a) (hS : S[n]? = some o) (ry : Rep H ρ y dy) (h : lookD o dy = some r) :
    (∀ d, r = some d → ∃ v, DGet H a y (some v) ∧ Rep H ρ v d) ∧ (r = none → DGet H a y none) := by
  obtain ⟨b, eb, ro⟩ := s.at_ n o hS
  rw [ha] at eb; cases eb
  cases o with
  | dK kvs =>
    obtain ⟨ks, hk, q⟩ := ro
    simp only [lookD, Option.map_eq_some_iff] at h
    obtain ⟨k, h1, rfl⟩ := h
    obtain rfl := keyK_rep ry h1
    have z := q.val k
    exact ⟨fun d e => let ⟨v, e1, r1⟩ := z.1 d e; ⟨v, .inl ⟨ks, k, .inl hk, rfl, e1.symm⟩, r1⟩, fun e => .inl ⟨ks, k, .inl hk, rfl, (z.2 e).symm⟩⟩
  | fK kvs =>
    obtain ⟨od, ks, hk, q⟩ := ro
    simp only [lookD, Option.map_eq_some_iff] at h
    obtain ⟨k, h1, rfl⟩ := h
    obtain rfl := keyK_rep ry h1
    have z := q.val k
    exact ⟨fun d e => let ⟨v, e1, r1⟩ := z.1 d e; ⟨v, .inl ⟨ks, k, .inr ⟨od, hk⟩, rfl, e1.symm⟩, r1⟩, fun e => .inl ⟨ks, k, .inr ⟨od, hk⟩, rfl, (z.2 e).symm⟩⟩
  | dT kvs =>
    obtain ⟨ks, hk, q⟩ := ro
    simp only [lookD, Option.map_eq_some_iff] at h
    obtain ⟨k, h1, rfl⟩ := h
    obtain ⟨b, rfl, hb⟩ := keyT_rep ry h1
    have z := q.val k
    exact ⟨fun d e => let ⟨v, e1, r1⟩ := z.1 d e; ⟨v, .inr ⟨ks, k, b, .inl hk, rfl, hb, e1.symm⟩, r1⟩, fun e => .inr ⟨ks, k, b, .inl hk, rfl, hb, (z.2 e).symm⟩⟩
  | fT kvs =>
    obtain ⟨od, ks, hk, q⟩ := ro
    simp only [lookD, Option.map_eq_some_iff] at h
    obtain ⟨k, h1, rfl⟩ := h
    obtain ⟨b, rfl, hb⟩ := keyT_rep ry h1
    have z := q.val k
    exact ⟨fun d e => let ⟨v, e1, r1⟩ := z.1 d e; ⟨v, .inr ⟨ks, k, b, .inr ⟨od, hk⟩, rfl, hb, e1.symm⟩, r1⟩, fun e => .inr ⟨ks, k, b, .inr ⟨od, hk⟩, rfl, hb, (z.2 e).symm⟩⟩
  | _ => cases h
section
variable {X : Cx} {E : XK} {pos : Pos} {a b c : Expr} {ma mb mc : Me}
theorem pe_or {e : Expr} {t t' : TE} (h : PE X e t) (h' : PE X e t') : PE X e (fun σ H Q => t σ H Q ∨ t' σ H Q) := ⟨fun pins s σ H Q I hw => hw.elim (h.run pins s σ H Q I) (h'.run pins s σ H Q I)⟩
/-- two parts, their values told -/
theorem two_of {f : Fn2} {ρ S σd σ H Q} (s : Sim ρ S H) (r : SRep H ρ σ σd) (h : PostG Rep E ρ H Q (mOp f ma mb σd S)) {T : V → V → Hp → Prop}
    (go : ∀ S1 dx S2 dy, ma σd S = .ok dx S1 → mb σd S1 = .ok dy S2 → ∀ ρ2 H2 x y, Sim ρ2 S2 H2 → Rep H2 ρ2 x dx → Rep H2 ρ2 y dy → PostG Rep E ρ2 H2 Q (f dx dy S2) → T x y H2) :
    tF E ma σ H fun x H1 => tF E mb σ H1 fun y H2 => T x y H2 := by
  refine ⟨ρ, S, σd, s, r, ?_⟩
  have h : PostG Rep E ρ H Q ((ma σd S).bind (opK f mb σd)) := h
  revert h go
  generalize hm : ma σd S = m
  cases m with
  | bad => exact fun _ h => h
  | exc c fs S1 => exact fun _ h => h
  | ok dx S1 =>
    intro go h x ρ1 H1 e1 s1 q1
    refine ⟨ρ1, S1, σd, s1, r.ext s e1, ?_⟩
    have h : PostG Rep E ρ H Q ((mb σd S1).bind (f dx)) := h
    have h := PostG.weak h e1
    revert h
    generalize hm2 : mb σd S1 = m2
    cases m2 with
    | bad => exact fun h => h
    | exc c fs S2 => exact fun h => h
    | ok dy S2 => exact fun h y ρ2 H2 e2 s2 q2 => go S1 dx S2 dy rfl hm2 ρ2 H2 x y s2 (q1.ext s1 e2) q2 (PostG.weak h e2)
/-- is the receiver a dict -/
@[simp] def isD (S : Sto) : D → Bool
  | .loc n => match S[n]? with
    | some o => isDO o
    | none => false
  | _ => false
@[simp] def okO {α : Type} (S : Sto) : Option α → R α
  | some d => .ok d S
  | none => .bad
/-- x[y] -/
noncomputable def fSub_ : Fn2
  | .loc n, y, S => match S[n]? with
    | some (.lst ds) => match y with
      | .int i => okO S (atI ds i)
      | _ => .bad
    | some o => match lookD o y with
      | some r => okO S r
      | none => .bad
    | none => .bad
  | .tup ds, .int i, S => okO S (atI ds i)
  | .str x, .int i, S => if x.length ≤ sizeLine then (match atI x.cps.toList i with
    | some c => .ok (.str ⟨#[c]⟩) S
    | none => .bad) else .bad
  | _, _, _ => .bad
theorem fe_sub (hu : X.A.units + 1 < cLine) (ha : FE X E a ma) (hb : FE X E b mb) (hs : PlainIx b) : FE X E (.Subscript a b pos) (mOp fSub_ ma mb) := by
  refine pe_imp (pe_or (pe_ix (IxR.or ix_list (IxR.or ix_tup ix_str)) ha hb hs) (pe_dget hu ha hb hs)) fun σ H Q ⟨ρ, S, σd, s, r, h⟩ => ?_
  by_cases hd : ∃ S1 dx S2 dy, ma σd S = .ok dx S1 ∧ mb σd S1 = .ok dy S2 ∧ isD S2 dx = true
  · refine .inr (two_of s r h fun S1 dx S2 dy e1 e2 ρ2 H2 x y s2 rx ry h2 => ?_)
    obtain ⟨S1', dx', S2', dy', e1', e2', hD⟩ := hd
    rw [e1] at e1'; cases e1'
    rw [e2] at e2'; cases e2'
    cases dx with
    | loc n =>
      cases rx with
      | loc ea =>
        cases hS : S2[n]? with
        | none => simp only [isD, hS] at hD; cases hD
        | some o =>
          simp only [isD, hS] at hD
          have h3 : PostG Rep E ρ2 H2 Q (match lookD o dy with
            | some r => okO S2 r
            | none => .bad) := by
            cases o with
            | lst _ => cases hD
            | _ => simpa only [fSub_, hS] using h2
          cases hl : lookD o dy with
          | none => rw [hl] at h3; exact h3.elim
          | some r =>
            rw [hl] at h3
            cases r with
            | none => exact h3.elim
            | some d =>
              obtain ⟨v, g, rv⟩ := (lookD_get s2 ea hS ry hl).1 d rfl
              exact ⟨_, v, rfl, g, PostG.here h3 s2 rv⟩
    | _ => cases hD
  · refine .inl (two_of s r h fun S1 dx S2 dy e1 e2 ρ2 H2 x y s2 rx ry h2 => ?_)
    have hD : isD S2 dx = false := by
      cases q : isD S2 dx with
      | false => rfl
      | true => exact absurd ⟨S1, dx, S2, dy, e1, e2, q⟩ hd
    cases dx with
    | loc n =>
      cases rx with
      | loc ea =>
        cases hS : S2[n]? with
        | none => simp only [fSub_, hS] at h2; exact h2.elim
        | some o =>
          simp only [isD, hS] at hD
          cases o with
          | lst ds =>
            simp only [fSub_, hS] at h2
            cases dy with
            | int i =>
              simp only at h2
              cases hi : atI ds i with
              | none => rw [hi] at h2; exact h2.elim
              | some d =>
                rw [hi] at h2
                cases ry
                obtain ⟨a', ea', xs, hx, q⟩ := s2.at_ _ _ hS
                rw [ea] at ea'; cases ea'
                obtain ⟨v, hv, rv⟩ := atI_rep q hi
                exact .inl ⟨_, xs, _, v, rfl, rfl, .of hx, hv, PostG.here h2 s2 rv⟩
            | _ => exact h2.elim
          | ins _ _ => simp only [fSub_, hS, lookD] at h2; exact h2.elim
          | _ => cases hD
    | tup ds =>
      cases dy with
      | int i =>
        simp only [fSub_] at h2
        cases hi : atI ds i with
        | none => rw [hi] at h2; exact h2.elim
        | some d =>
          rw [hi] at h2
          cases ry
          cases rx with
          | tup hx q =>
            obtain ⟨v, hv, rv⟩ := atI_rep q hi
            exact .inr (.inl ⟨_, _, _, v, rfl, rfl, .of hx, hv, PostG.here h2 s2 rv⟩)
      | _ => exact h2.elim
    | str z =>
      cases dy with
      | int i =>
        simp only [fSub_] at h2
        split at h2
        · rename_i hz
          split at h2
          · rename_i hc
            cases rx; cases ry
            exact .inr (.inr ⟨_, _, _, rfl, rfl, hz, hc, PostG.here h2 s2 (.str _)⟩)
          · exact h2.elim
        · exact h2.elim
      | _ => exact h2.elim
    | _ => exact h2.elim
end
end FL
set_option Elab.async false
set_option linter.all false
set_option maxRecDepth 100000
set_option maxHeartbeats 4000000
/-! FLb: in, dict methods, displays, list methods, sums, slices, chains, ranges with a step, walked dicts. -/
namespace FL
open PySem PySem.Spec PyProof.Rows L2
variable [KMap]
section
variable {X : Cx} {E : XK} {pos : Pos} {a b c : Expr} {ma mb mc : Me}
/-! ### in -/
def flatD : D → Bool
  | .non => true | .bl _ => true | .int _ => true | .str _ => true | _ => false
def eqvD : D → D → Bool
  | .non, .non => true
  | .bl a, .bl b => a == b
  | .bl a, .int b => (if a then 1 else 0) == b
  | .int a, .bl b => a == (if b then 1 else 0)
  | .int a, .int b => a == b
  | .str a, .str b => a == b
  | _, _ => false
theorem flatD_rep {H ρ v d} (r : Rep H ρ v d) : flatD d = true → flatV v = true := by cases r <;> intro h <;> first | rfl | cases h
theorem flatsD_rep {H ρ} : ∀ {vs ds}, Reps H ρ vs ds → ds.all flatD = true → vs.all flatV = true
  | _, _, .nil, _ => rfl
  | _, _, .cons r t, h => by
    rw [List.all_cons, Bool.and_eq_true] at h ⊢
    exact ⟨flatD_rep r h.1, flatsD_rep t h.2⟩
theorem eqvD_rep {H ρ v d w e} (r : Rep H ρ v d) (q : Rep H ρ w e) (h : flatD d = true) (h' : flatD e = true) : eqV v w = eqvD d e := by
  cases r <;> cases q <;> first | rfl | cases h | cases h'
theorem inD_rep {H ρ v d} (r : Rep H ρ v d) (h : flatD d = true) : ∀ {vs ds}, Reps H ρ vs ds → ds.all flatD = true → inV v vs = ds.any fun e => eqvD e d
  | _, _, .nil, _ => rfl
  | _, _, .cons q t, h' => by
    rw [List.all_cons, Bool.and_eq_true] at h'
    have ih := inD_rep r h t h'.2
    simp only [inV] at ih ⊢
    rw [List.any_cons, List.any_cons, ih, eqvD_rep q r h'.1 h]
noncomputable def fInN (neg : Bool) : Fn2
  | y, .loc n, S => match S[n]? with
    | some (.lst ds) => if (flatD y && ds.all flatD) = true then .ok (.bl (neg ^^ ds.any fun e => eqvD e y)) S else .bad
    | some o => match lookD o y with
      | some r => .ok (.bl (neg ^^ r.isSome)) S
      | none => .bad
    | none => .bad
  | y, .tup ds, S => if (flatD y && ds.all flatD) = true then .ok (.bl (neg ^^ ds.any fun e => eqvD e y)) S else .bad
  | .str x, .str y, S => .ok (.bl (neg ^^ !(Builtin.Str.occurrences y x 0 y.length 1).isEmpty)) S
  | _, _, _ => .bad
noncomputable abbrev fIn : Fn2 := fInN false
noncomputable abbrev fNotIn : Fn2 := fInN true
theorem fIn_core {neg : Bool} {r0 : R2} (h1 : ∀ (x y : V) (H : Hp) (Q : VK), (rIn X.K neg x y H Q ∨ ∃ i j, x = .str i ∧ y = .str j ∧ Q (.bl (neg ^^ !(Builtin.Str.occurrences j i 0 j.length 1).isEmpty)) H) → r0 x y H Q)
    {σ H Q} (h : tF E (mOp (fInN neg) ma mb) σ H Q) :
    tOp r0 (tF E ma) (tF E mb) σ H Q ∨ (tF E ma σ H fun y H1 => tF E mb σ H1 fun x H2 => ∃ a o, x = .ref a ∧ DGet H2 a y o ∧ Q (.bl (neg ^^ o.isSome)) H2) := by
  obtain ⟨ρ, S, σd, s, r, h⟩ := h
  by_cases hd : ∃ S1 dx S2 dy, ma σd S = .ok dx S1 ∧ mb σd S1 = .ok dy S2 ∧ isD S2 dy = true
  · refine .inr (two_of s r h fun S1 dx S2 dy e1 e2 ρ2 H2 x y s2 rx ry h2 => ?_)
    obtain ⟨S1', dx', S2', dy', e1', e2', hD⟩ := hd
    rw [e1] at e1'; cases e1'
    rw [e2] at e2'; cases e2'
    cases dy with
    | loc n =>
      cases ry with
      | loc ea =>
        cases hS : S2[n]? with
        | none => simp only [isD, hS] at hD; cases hD
        | some o =>
          simp only [isD, hS] at hD
          have h3 : PostG Rep E ρ2 H2 Q (match lookD o dx with
            | some r => .ok (.bl (neg ^^ r.isSome)) S2
            | none => .bad) := by
            cases o with
            | lst _ => cases hD
            | _ => simpa only [fInN, hS] using h2
          cases hl : lookD o dx with
          | none => rw [hl] at h3; exact h3.elim
          | some r =>
            rw [hl] at h3
            have g := lookD_get s2 ea hS rx hl
            cases r with
            | none => exact ⟨_, none, rfl, g.2 rfl, PostG.here h3 s2 (.bl _)⟩
            | some d =>
              obtain ⟨v, g, rv⟩ := g.1 d rfl
              exact ⟨_, some v, rfl, g, PostG.here h3 s2 (.bl _)⟩
    | _ => cases hD
  · refine .inl (two_of s r h fun S1 dx S2 dy e1 e2 ρ2 H2 x y s2 rx ry h2 => h1 _ _ _ _ ?_)
    have hD : isD S2 dy = false := by
      cases q : isD S2 dy with
      | false => rfl
      | true => exact absurd ⟨S1, dx, S2, dy, e1, e2, q⟩ hd
    cases dy with
    | loc n =>
      cases ry with
      | loc ea =>
        cases hS : S2[n]? with
        | none => simp only [fInN, hS] at h2; exact h2.elim
        | some o =>
          simp only [isD, hS] at hD
          cases o with
          | lst ds =>
            simp only [fInN, hS] at h2
            split at h2
            · rename_i hf
              rw [Bool.and_eq_true] at hf
              obtain ⟨a', ea', xs, hx, q⟩ := s2.at_ _ _ hS
              rw [ea] at ea'; cases ea'
              refine .inl ⟨_, xs, rfl, .inl (.of hx), flatD_rep rx hf.1, flatsD_rep q hf.2, ?_⟩
              have := PostG.here h2 s2 (.bl _)
              rw [inD_rep rx hf.1 q hf.2]
              cases neg <;> simpa using this
            · exact h2.elim
          | ins _ _ => simp only [fInN, hS, lookD] at h2; exact h2.elim
          | _ => cases hD
    | tup ds =>
      cases ry with
      | tup hx q =>
        simp only [fInN] at h2
        split at h2
        · rename_i hf
          rw [Bool.and_eq_true] at hf
          refine .inl ⟨_, _, rfl, .inr (.of hx), flatD_rep rx hf.1, flatsD_rep q hf.2, ?_⟩
          have := PostG.here h2 s2 (.bl _)
          rw [inD_rep rx hf.1 q hf.2]
          cases neg <;> simpa using this
        · exact h2.elim
    | str z =>
      cases dx with
      | str w => cases rx; cases ry; exact .inr ⟨_, _, rfl, rfl, PostG.here h2 s2 (.bl _)⟩
      | _ => exact h2.elim
    | _ => cases dx <;> exact h2.elim
theorem fe_in (hu : X.A.units + 1 < cLine) (ha : FE X E a ma) (hb : FE X E b mb) (hm : behindInMarks .In b = false := by rfl) : FE X E (.Compare a [.In] [b] pos) (mOp fIn ma mb) := by
  refine pe_imp (pe_or (pe_cmpR (OpR.or op_in_seq op_in_str) ha hb hm) (pe_cmp (pc_din hu ha hb) hm)) fun σ H Q h => ?_
  refine (fIn_core (X := X) (r0 := fun x y H Q => _ ∨ _) (fun x y H Q h => ?_) h).imp id fun h => ?_
  · simpa using h
  · simpa [tDIn] using h
theorem fe_notIn (hu : X.A.units + 1 < cLine) (ha : FE X E a ma) (hb : FE X E b mb) (hm : behindInMarks .NotIn b = false := by rfl) : FE X E (.Compare a [.NotIn] [b] pos) (mOp fNotIn ma mb) := by
  refine pe_imp (pe_or (pe_cmpR (OpR.or op_notIn_seq op_notin_str) ha hb hm) (pe_cmp (pc_dnotin hu ha hb) hm)) fun σ H Q h => ?_
  refine (fIn_core (X := X) (r0 := fun x y H Q => _ ∨ _) (fun x y H Q h => ?_) h).imp id fun h => ?_
  · simpa using h
  · simpa [tDNotIn] using h
theorem pt_or {e : Expr} {t t' : TT} (h : PT X e t) (h' : PT X e t') : PT X e (fun σ H Q => t σ H Q ∨ t' σ H Q) := ⟨fun pins s σ H Q I hw => hw.elim (h.run pins s σ H Q I) (h'.run pins s σ H Q I)⟩
theorem ft_in (hu : X.A.units + 1 < cLine) (ha : FE X E a ma) (hb : FE X E b mb) (hm : behindInMarks .In b = false := by rfl) : FT X E (.Compare a [.In] [b] pos) (mTest (mOp fIn ma mb)) := by
  refine pt_imp (pt_or (pt_cmpR (OpR.or op_in_seq op_in_str) ha hb hm) (pt_cmp (pc_din hu ha hb) hm)) fun σ H Q h => ?_
  refine (fIn_core (X := X) (r0 := fun x y H Q => _ ∨ _) (fun x y H Q h => ?_) (tTest_of h)).imp id fun h => ?_
  · simpa using h
  · simpa [tDIn, tB] using h
theorem ft_notIn (hu : X.A.units + 1 < cLine) (ha : FE X E a ma) (hb : FE X E b mb) (hm : behindInMarks .NotIn b = false := by rfl) : FT X E (.Compare a [.NotIn] [b] pos) (mTest (mOp fNotIn ma mb)) := by
  refine pt_imp (pt_or (pt_cmpR (OpR.or op_notIn_seq op_notin_str) ha hb hm) (pt_cmp (pc_dnotin hu ha hb) hm)) fun σ H Q h => ?_
  refine (fIn_core (X := X) (r0 := fun x y H Q => _ ∨ _) (fun x y H Q h => ?_) (tTest_of h)).imp id fun h => ?_
  · simpa using h
  · simpa [tDNotIn, tB] using h
end
/-! ### displays of dicts -/
section
variable {X : Cx} {E : XK} {pos : Pos} {a b c : Expr} {ma mb mc : Me}
@[simp] def mDnewK (_ : Sd) (S : Sto) : R D := .ok (.loc S.length) (S ++ [.dK []])
@[simp] def mDnewT (_ : Sd) (S : Sto) : R D := .ok (.loc S.length) (S ++ [.dT []])
theorem fe_dnewK : FE X E (.Dict [] [] pos) mDnewK := pe_imp pe_dnewK fun σ H Q ⟨ρ, S, σd, s, r, h⟩ => new_obj (o := .dK []) s (fun p hp => ⟨[], upd_same, .nil⟩) h
theorem fe_dnewT : FE X E (.Dict [] [] pos) mDnewT := pe_imp pe_dnewT fun σ H Q ⟨ρ, S, σd, s, r, h⟩ => new_obj (o := .dT []) s (fun p hp => ⟨[], upd_same, .nil⟩) h
/-! ### stores under a key, at a place -/
@[simp] noncomputable def fSet_ (o i v : D) (S : Sto) : Option Sto := match o with
  | .loc n => match S[n]? with
    | some (.lst ds) => match i with
      | .int k => match ixN ds.length k with
        | some j => some (S.set n (.lst (ds.set j v)))
        | none => none
      | _ => none
    | some (.dK kvs) => match keyK i with
      | some k => if kvs.length < sizeLine then some (S.set n (.dK (putD kvs k v))) else none
      | none => none
    | some (.dT kvs) => match keyT i with
      | some k => if kvs.length < sizeLine then some (S.set n (.dT (putD kvs k v))) else none
      | none => none
    | _ => none
  | _ => none
def rSetD : V → V → V → Hp → (Hp → Prop) → Prop := fun o i v H Q => ∃ a H', o = .ref a ∧ DPut H a i v H' ∧ Q H'
theorem set_dict (hu : X.A.units + 1 < cLine) : PSet X rSetD := by
  intro pins s σ H o i v ov iv u Q I ro ri rv h
  obtain ⟨a, H', rfl, g, q⟩ := h
  cases ro
  exact d_setItem hu I g ri rv fun s' I' => ⟨H', I', q⟩
theorem PSet.or {t t' : TSet} (h : PSet X t) (h' : PSet X t') : PSet X (fun o i v H Q => t o i v H Q ∨ t' o i v H Q) := fun pins s σ H o i v ov iv u Q I ro ri rv q =>
  q.elim (h pins s σ H o i v ov iv u Q I ro ri rv) (h' pins s σ H o i v ov iv u Q I ro ri rv)
theorem tup_upd {H : Hp} {a : Addr} {u w : HO} (hw : H a = some w) (hn : ∀ xs, w ≠ .tup xs) : ∀ b ys, H b = some (.tup ys) → (upd H a u) b = some (.tup ys) := fun b ys hb => by
  rw [upd_ne (fun z => by rw [z, hw] at hb; cases hb; exact hn _ rfl)]; exact hb
theorem setF (hu : X.A.units + 1 < cLine) : SetF X fSet_ := by
  refine ⟨_, PSet.or set_list (set_dict hu), fun ρ S H o i v do_ di dv S' Q s ro ri rv h k => ?_⟩
  cases do_ with
  | loc n =>
    cases ro with
    | loc ea =>
      simp only [fSet_] at h
      split at h
      · rename_i ds hS
        split at h
        · rename_i kk
          split at h
          · rename_i hj
            cases h
            cases ri
            obtain ⟨a, ea', xs, hx, q⟩ := s.at_ _ _ hS
            rw [ea] at ea'; cases ea'
            obtain ⟨e1, s1⟩ := s.set (o := .lst (_ : List D)) ea hx rfl ⟨_, upd_same, (q.set rv _).mono (List.prefix_refl _) (tup_upd hx fun _ z => nomatch z)⟩
            exact .inl ⟨_, xs, _, _, rfl, rfl, hx, by rw [q.length]; exact hj, k _ e1 s1⟩
          · cases h
        · cases h
      · rename_i kvs hS
        split at h
        · rename_i ky hk
          split at h
          · rename_i hz
            cases h
            obtain ⟨a, ea', ks, hx, q⟩ := s.at_ _ _ hS
            rw [ea] at ea'; cases ea'
            obtain rfl := keyK_rep ri hk
            obtain ⟨e1, s1⟩ := s.set (o := .dK (putD kvs ky dv)) ea hx rfl ⟨_, upd_same, (q.put ky rv).mono (List.prefix_refl _) (tup_upd hx fun _ z => nomatch z)⟩
            exact .inr ⟨_, _, rfl, .inl ⟨ks, ky, hx, rfl, by rw [q.len]; exact hz, rfl⟩, k _ e1 s1⟩
          · cases h
        · cases h
      · rename_i kvs hS
        split at h
        · rename_i ky hk
          split at h
          · rename_i hz
            cases h
            obtain ⟨a, ea', ks, hx, q⟩ := s.at_ _ _ hS
            rw [ea] at ea'; cases ea'
            obtain ⟨b, rfl, hb⟩ := keyT_rep ri hk
            obtain ⟨e1, s1⟩ := s.set (o := .dT (putD kvs ky dv)) ea hx rfl ⟨_, upd_same, (q.put ky rv).mono (List.prefix_refl _) (tup_upd hx fun _ z => nomatch z)⟩
            exact .inr ⟨_, _, rfl, .inr ⟨ks, ky, b, hx, rfl, hb, by rw [q.len]; exact hz, rfl⟩, k _ e1 s1⟩
          · cases h
        · cases h
      · cases h
  | _ => cases h
/-! ### d.get(k, x), d.get(k) -/
@[simp] def getK2 (o : O) (y z : D) (S : Sto) : R D := match lookD o y with
  | some r => .ok (r.getD z) S
  | none => .bad
@[simp] def getK (n : Nat) (mc : Me) (σ : Sd) (y : D) (S : Sto) : R D := (mc σ S).bind fun z S2 => match S2[n]? with
  | some o => if isDO o = true then getK2 o y z S2 else .bad
  | none => .bad
@[simp] def getK0 (mb mc : Me) (σ : Sd) (x : D) (S : Sto) : R D := match x with
  | .loc n => match S[n]? with
    | some o => if isDO o = true then (mb σ S).bind (getK n mc σ) else .bad
    | none => .bad
  | _ => .bad
@[simp] def mDget (ma mb mc : Me) (σ : Sd) (S : Sto) : R D := (ma σ S).bind (getK0 mb mc σ)
theorem isDO_is {ρ : List Addr} {S : Sto} {H : Hp} {a : Addr} {n : Nat} {o : O} (s : Sim ρ S H) (ha : ρ[n]? = some a) (hS : S[n]? = some o) (h : isDO o = true) : IsD H a := by
  obtain ⟨b, eb, ro⟩ := s.at_ n o hS
  rw [ha] at eb; cases eb
  cases o with
  | dK kvs => obtain ⟨ks, hk, q⟩ := ro; exact .inl ⟨ks, .inl hk⟩
  | fK kvs => obtain ⟨od, ks, hk, q⟩ := ro; exact .inl ⟨ks, .inr ⟨od, hk⟩⟩
  | dT kvs => obtain ⟨ks, hk, q⟩ := ro; exact .inr ⟨ks, .inl hk⟩
  | fT kvs => obtain ⟨od, ks, hk, q⟩ := ro; exact .inr ⟨ks, .inr ⟨od, hk⟩⟩
  | _ => cases h
theorem fe_dget {o e f : Expr} {apos cpos : Pos} (hu : X.A.units + 1 < cLine) (ho : FE X E o ma) (he : FE X E e mb) (hf : FE X E f mc) (m : M2 X o "get" apos e f cpos := by exact ⟨rfl, rfl, rfl, rfl⟩) :
    FE X E (.Call (.Attribute o "get" apos) [e, f] [] cpos) (mDget ma mb mc) := by
  refine pe_imp (pe_dget2 hu ho he hf m) fun σ H Q ⟨ρ, S, σd, s, r, h⟩ => ⟨ρ, S, σd, s, r, (PostG.bind (rel := Rep) h).mono fun x H1 ⟨ρ1, S1, dx, e1, s1, q1, h1⟩ => ?_⟩
  cases dx with
  | loc n =>
    cases q1 with
    | loc ea =>
      simp only [getK0] at h1
      split at h1
      · rename_i o1 hS
        split at h1
        · rename_i hD
          refine ⟨_, rfl, isDO_is s1 ea hS hD, ρ1, S1, σd, s1, r.ext s e1, (PostG.bind (rel := Rep) h1).mono fun y H2 ⟨ρ2, S2, dy, e2, s2, q2, h2⟩ => ?_⟩
          refine ⟨ρ2, S2, σd, s2, (r.ext s e1).ext s1 e2, (PostG.bind (rel := Rep) h2).mono fun z H3 ⟨ρ3, S3, dz, e3, s3, q3, h3⟩ => ?_⟩
          have ea3 := prefix_get e3.pre (prefix_get e2.pre ea)
          split at h3
          · rename_i o3 hS3
            split at h3
            · simp only [getK2] at h3
              split at h3
              · rename_i rr hl
                have g := lookD_get s3 ea3 hS3 (q2.ext s2 e3) hl
                cases rr with
                | none => exact ⟨none, g.2 rfl, PostG.here h3 s3 q3⟩
                | some d =>
                  obtain ⟨v, g, rv⟩ := g.1 d rfl
                  exact ⟨some v, g, PostG.here h3 s3 rv⟩
              · exact h3.elim
            · exact h3.elim
          · exact h3.elim
        · exact h1.elim
      · exact h1.elim
  | _ => exact h1.elim
end
end FL
set_option Elab.async false
set_option linter.all false
set_option maxRecDepth 100000
set_option maxHeartbeats 4000000
/-! FLc: o[i] op= v for dicts, methods of lists, tuple, list, sums, slices, chains, ranges with a step, walked dicts. -/
namespace FL
open PySem PySem.Spec PyProof.Rows L2
variable [KMap]
section
variable {X : Cx} {E : XK} {pos : Pos} {a b c : Expr} {ma mb mc : Me}
/-! ### o[i] op= v -/
noncomputable def fGet_ : Fn2
  | .loc n, y, S => match S[n]? with
    | some (.lst ds) => match y with
      | .int i => okO S (atI ds i)
      | _ => .bad
    | some o => match lookD o y with
      | some r => okO S r
      | none => .bad
    | none => .bad
  | _, _, _ => .bad
def rGetD : V → V → Hp → VK → Prop := fun x y H Q => ∃ a v, x = .ref a ∧ DGet H a y (some v) ∧ Q v H
theorem get_dict (hu : X.A.units + 1 < cLine) : PGet X rGetD := by
  intro pins s σ H o i ov iv Q I ro ri h
  obtain ⟨a, v, rfl, g, q⟩ := h
  cases ro
  exact d_getItem hu I g ri fun w' s' I' r => ⟨v, H, I', r, q⟩
theorem PGet.or {t t' : V → V → Hp → VK → Prop} (h : PGet X t) (h' : PGet X t') : PGet X (fun x y H Q => t x y H Q ∨ t' x y H Q) := fun pins s σ H o i ov iv Q I ro ri q =>
  q.elim (h pins s σ H o i ov iv Q I ro ri) (h' pins s σ H o i ov iv Q I ro ri)
theorem getF (hu : X.A.units + 1 < cLine) : GetF X E fGet_ := by
  refine ⟨_, PGet.or get_list (get_dict hu), fun ρ S H x y dx dy Q s rx ry h => ?_⟩
  cases dx with
  | loc n =>
    cases rx with
    | loc ea =>
      cases hS : S[n]? with
      | none => simp only [fGet_, hS] at h; exact h.elim
      | some o =>
        cases o with
        | lst ds =>
          simp only [fGet_, hS] at h
          cases dy with
          | int i =>
            simp only at h
            cases hi : atI ds i with
            | none => rw [hi] at h; exact h.elim
            | some d =>
              rw [hi] at h
              cases ry
              obtain ⟨a', ea', xs, hx, q⟩ := s.at_ _ _ hS
              rw [ea] at ea'; cases ea'
              obtain ⟨v, hv, rv⟩ := atI_rep q hi
              exact .inl ⟨_, xs, _, v, rfl, rfl, .of hx, hv, PostG.here h s rv⟩
          | _ => exact h.elim
        | ins _ _ => simp only [fGet_, hS, lookD] at h; exact h.elim
        | _ =>
          simp only [fGet_, hS] at h
          split at h
          · rename_i r hl
            cases r with
            | none => exact h.elim
            | some d =>
              obtain ⟨v, g, rv⟩ := (lookD_get s ea hS ry hl).1 d rfl
              exact .inr ⟨_, v, rfl, g, PostG.here h s rv⟩
          · exact h.elim
  | _ => exact h.elim
/-! ### methods of lists -/
theorem setL {ρ : List Addr} {S : Sto} {H : Hp} {n : Nat} {a : Addr} {xs ys : List V} {ds : List D} (s : Sim ρ S H) (ea : ρ[n]? = some a) (hx : H a = some (.lst xs)) (q : Reps H ρ ys ds) :
    Ext ρ H ρ (upd H a (.lst ys)) ∧ Sim ρ (S.set n (.lst ds)) (upd H a (.lst ys)) :=
  s.set (o := .lst ds) ea hx rfl ⟨_, upd_same, q.mono (List.prefix_refl _) (tup_upd hx fun _ z => nomatch z)⟩
theorem Sim.lst {ρ : List Addr} {S : Sto} {H : Hp} {n : Nat} {a : Addr} {ds : List D} (s : Sim ρ S H) (ea : ρ[n]? = some a) (hS : S[n]? = some (.lst ds)) : ∃ xs, H a = some (.lst xs) ∧ Reps H ρ xs ds := by
  obtain ⟨a', ea', xs, hx, q⟩ := s.at_ _ _ hS
  rw [ea] at ea'; cases ea'
  exact ⟨xs, hx, q⟩
theorem Reps.take {H ρ} : ∀ {vs ds} (i : Nat), Reps H ρ vs ds → Reps H ρ (vs.take i) (ds.take i)
  | _, _, _, .nil => by rw [List.take_nil, List.take_nil]; exact .nil
  | _, _, 0, .cons _ _ => .nil
  | _, _, i + 1, .cons r t => .cons r (Reps.take i t)
theorem Reps.drop {H ρ} : ∀ {vs ds} (i : Nat), Reps H ρ vs ds → Reps H ρ (vs.drop i) (ds.drop i)
  | _, _, _, .nil => by rw [List.drop_nil, List.drop_nil]; exact .nil
  | _, _, 0, .cons r t => .cons r t
  | _, _, i + 1, .cons r t => Reps.drop i t
theorem Reps.dropLast {H ρ} : ∀ {vs ds}, Reps H ρ vs ds → Reps H ρ vs.dropLast ds.dropLast
  | _, _, .nil => .nil
  | _, _, .cons r .nil => .nil
  | _, _, .cons r (.cons q t) => .cons r (Reps.dropLast (.cons q t))
theorem Reps.eraseIdx {H ρ} : ∀ {vs ds} (i : Nat), Reps H ρ vs ds → Reps H ρ (vs.eraseIdx i) (ds.eraseIdx i)
  | _, _, _, .nil => .nil
  | _, _, 0, .cons _ t => t
  | _, _, i + 1, .cons r t => .cons r (Reps.eraseIdx i t)
theorem Reps.reverse {H ρ} : ∀ {vs ds}, Reps H ρ vs ds → Reps H ρ vs.reverse ds.reverse
  | _, _, .nil => .nil
  | _, _, .cons r t => by rw [List.reverse_cons, List.reverse_cons]; exact (Reps.reverse t).append (.cons r .nil)
abbrev FnM := D → List D → Sto → R D
@[simp] noncomputable def fApp : FnM
  | .loc n, [y], S => match S[n]? with
    | some (.lst xs) => if xs.length < sizeLine then .ok .non (S.set n (.lst (xs ++ [y]))) else .bad
    | _ => .bad
  | _, _, _ => .bad
theorem mt_appF : MtF X E "list.append" fApp := by
  refine ⟨_, MtM.mtr mt_append, fun ρ S H x xs dx ds Q s rx q h => ?_⟩
  unfold fApp at h
  split at h
  · split at h
    · rename_i hS
      split at h
      · rename_i hz
        cases rx with
        | loc ea =>
          obtain ⟨v, rfl, r⟩ := reps1 q
          obtain ⟨ys, hx, qy⟩ := s.lst ea hS
          obtain ⟨e1, s1⟩ := setL s ea hx (qy.snoc r)
          exact ⟨_, ys, v, rfl, rfl, hx, by rw [qy.length]; exact hz, h _ ρ _ e1 s1 .non⟩
      · exact h.elim
    · exact h.elim
  · exact h.elim
@[simp] noncomputable def fExt : FnM
  | .loc n, [.loc m], S => match S[n]? with
    | some (.lst xs) => match S[m]? with
      | some (.lst zs) => if xs.length + zs.length ≤ sizeLine then .ok .non (S.set n (.lst (xs ++ zs))) else .bad
      | _ => .bad
    | _ => .bad
  | _, _, _ => .bad
theorem mt_extF : MtF X E "list.extend" fExt := by
  refine ⟨_, MtM.mtr mt_extend, fun ρ S H x xs dx ds Q s rx q h => ?_⟩
  unfold fExt at h
  split at h
  · split at h
    · rename_i hS
      split at h
      · rename_i hM
        split at h
        · rename_i hz
          cases rx with
          | loc ea =>
            obtain ⟨v, rfl, r⟩ := reps1 q
            cases r with
            | loc eb =>
              obtain ⟨ys, hx, qy⟩ := s.lst ea hS
              obtain ⟨zs, hz', qz⟩ := s.lst eb hM
              obtain ⟨e1, s1⟩ := setL s ea hx (qy.append qz)
              exact ⟨_, _, ys, zs, rfl, rfl, hx, hz', by rw [qy.length, qz.length]; exact hz, h _ ρ _ e1 s1 .non⟩
        · exact h.elim
      · exact h.elim
    · exact h.elim
  · exact h.elim
@[simp] noncomputable def fPop : FnM
  | .loc n, [], S => match S[n]? with
    | some (.lst xs) => match xs[xs.length - 1]? with
      | some y => .ok y (S.set n (.lst xs.dropLast))
      | none => .bad
    | _ => .bad
  | .loc n, [.int i], S => match S[n]? with
    | some (.lst xs) => if -(2 ^ 63) ≤ i ∧ i < 2 ^ 63 then (match seqIndex? i xs.length with
      | some k => match xs[k]? with
        | some y => .ok y (S.set n (.lst (xs.eraseIdx k)))
        | none => .bad
      | none => .bad) else .bad
    | _ => .bad
  | _, _, _ => .bad
theorem MtR.or {id : String} {r r' : V → List V → Hp → VK → Prop} (h : MtR X id r) (h' : MtR X id r') : MtR X id (fun x xs H Q => r x xs H Q ∨ r' x xs H Q) := fun pins s σ H x xs v us Q I rx rv q =>
  q.elim (h pins s σ H x xs v us Q I rx rv) (h' pins s σ H x xs v us Q I rx rv)
theorem mt_popF : MtF X E "list.pop" fPop := by
  refine ⟨_, MtR.or (MtM.mtr mt_pop) (MtM.mtr mt_popAt), fun ρ S H x xs dx ds Q s rx q h => ?_⟩
  unfold fPop at h
  split at h
  · split at h
    · rename_i hS
      split at h
      · rename_i y hy
        cases rx with
        | loc ea =>
          cases q
          obtain ⟨ys, hx, qy⟩ := s.lst ea hS
          obtain ⟨v, hv, rv⟩ := qy.get hy
          obtain ⟨e1, s1⟩ := setL s ea hx qy.dropLast
          exact .inl ⟨_, ys, v, rfl, rfl, hx, by rw [qy.length]; exact hv, h _ ρ _ e1 s1 (rv.ext s e1)⟩
      · exact h.elim
    · exact h.elim
  · split at h
    · rename_i hS
      split at h
      · rename_i hi
        split at h
        · rename_i k hk
          split at h
          · rename_i y hy
            cases rx with
            | loc ea =>
              obtain ⟨w, rfl, r⟩ := reps1 q
              cases r
              obtain ⟨ys, hx, qy⟩ := s.lst ea hS
              obtain ⟨v, hv, rv⟩ := qy.get hy
              obtain ⟨e1, s1⟩ := setL s ea hx (qy.eraseIdx k)
              exact .inr ⟨_, ys, _, k, v, rfl, rfl, hx, hi.1, hi.2, by rw [qy.length]; exact hk, hv, h _ ρ _ e1 s1 (rv.ext s e1)⟩
          · exact h.elim
        · exact h.elim
      · exact h.elim
    · exact h.elim
  · exact h.elim
@[simp] noncomputable def fIns : FnM
  | .loc n, [.int i, y], S => match S[n]? with
    | some (.lst xs) => if xs.length < sizeLine ∧ 0 ≤ i ∧ i < 2 ^ 63 then .ok .non (S.set n (.lst (xs.take i.toNat ++ [y] ++ xs.drop i.toNat))) else .bad
    | _ => .bad
  | _, _, _ => .bad
theorem mt_insF : MtF X E "list.insert" fIns := by
  refine ⟨_, mt_insert, fun ρ S H x xs dx ds Q s rx q h => ?_⟩
  unfold fIns at h
  split at h
  · split at h
    · rename_i hS
      split at h
      · rename_i hz
        cases rx with
        | loc ea =>
          obtain ⟨v, w, rfl, r, r'⟩ := reps2 q
          cases r
          obtain ⟨ys, hx, qy⟩ := s.lst ea hS
          obtain ⟨e1, s1⟩ := setL s ea hx (((qy.take _).append (.cons r' .nil)).append (qy.drop _))
          exact ⟨_, ys, _, w, rfl, rfl, hx, by rw [qy.length]; exact hz.1, hz.2.1, hz.2.2, h _ ρ _ e1 s1 .non⟩
      · exact h.elim
    · exact h.elim
  · exact h.elim
/-! ### tuple(x), list(x) -/
def fTupOf : FnL
  | [.loc n], S => match S[n]? with
    | some (.lst ds) => .ok (.tup ds) S
    | _ => .bad
  | [.tup ds], S => .ok (.tup ds) S
  | _, _ => .bad
theorem call_tupF : CallF X E (.type "tuple") fTupOf := by
  refine ⟨_, call_tuple_of, fun ρ S H xs ds Q s q h => ?_⟩
  unfold fTupOf at h
  split at h
  · split at h
    · rename_i hS
      obtain ⟨v, rfl, r⟩ := reps1 q
      cases r with
      | loc ea =>
        obtain ⟨ys, hx, qy⟩ := s.lst ea hS
        exact ⟨_, ys, rfl, .inl ⟨.of hx, new_tup s qy h⟩⟩
    · exact h.elim
  · obtain ⟨v, rfl, r⟩ := reps1 q
    cases r with
    | tup hx q => exact ⟨_, _, rfl, .inr ⟨.of hx, PostG.here h s (.tup hx q)⟩⟩
  · exact h.elim
theorem Reps.keys {H ρ} {κ : Type} {f : κ → V} {g : κ → D} (hr : ∀ k, Rep H ρ (f k) (g k)) : ∀ {gs : List (κ × V)} {fs : List (κ × D)}, RepF H ρ gs fs → Reps H ρ (gs.map fun p => f p.1) (fs.map fun p => g p.1)
  | _, _, .nil => .nil
  | _, _, .cons (a := a) (b := b) ⟨e, r⟩ t => .cons (by show Rep H ρ (f a.1) (g b.1); rw [e]; exact hr _) (Reps.keys hr t)
noncomputable def fLstOf : FnL
  | [.loc n], S => match S[n]? with
    | some (.lst ds) => .ok (.loc S.length) (S ++ [.lst ds])
    | some (.dK kvs) => .ok (.loc S.length) (S ++ [.lst (kvs.map fun p => keyD p.1)])
    | _ => .bad
  | [.tup ds], S => .ok (.loc S.length) (S ++ [.lst ds])
  | _, _ => .bad
theorem call_lstF (hc : X.calm = true) : CallF X E (.type "list") fLstOf := by
  refine ⟨_, CallR.or call_list_of (call_list_dK hc), fun ρ S H xs ds Q s q h => ?_⟩
  unfold fLstOf at h
  split at h
  · split at h
    · rename_i hS
      obtain ⟨v, rfl, r⟩ := reps1 q
      cases r with
      | loc ea =>
        obtain ⟨ys, hx, qy⟩ := s.lst ea hS
        exact .inl ⟨_, ys, rfl, .inl (.of hx), new_lst s qy h⟩
    · rename_i hS
      obtain ⟨v, rfl, r⟩ := reps1 q
      cases r with
      | loc ea =>
        obtain ⟨a', ea', ks, hx, qy⟩ := s.at_ _ _ hS
        rw [ea] at ea'; cases ea'
        exact .inr ⟨_, ks, rfl, hx, new_lst s (Reps.keys (f := kV) (g := keyD) (fun k => keyD_rep k) qy) h⟩
    · exact h.elim
  · obtain ⟨v, rfl, r⟩ := reps1 q
    cases r with
    | tup hx q => exact .inl ⟨_, _, rfl, .inr (.of hx), new_lst s q h⟩
  · exact h.elim
/-! ### sum, all, any -/
@[simp] def intsD : List D → Option (List Int)
  | [] => some []
  | .int i :: r => (intsD r).map (i :: ·)
  | _ => none
@[simp] def blsD : List D → Option (List Bool)
  | [] => some []
  | .bl i :: r => (blsD r).map (i :: ·)
  | _ => none
theorem intsD_rep {H ρ} : ∀ {ds vs ns}, Reps H ρ vs ds → intsD ds = some ns → vs = ns.map V.int
  | [], _, _, .nil, h => by cases h; rfl
  | .int i :: r, _, _, .cons (.int _) t, h => by
    simp only [intsD, Option.map_eq_some_iff] at h
    obtain ⟨ns, h, rfl⟩ := h
    rw [intsD_rep t h]; rfl
theorem blsD_rep {H ρ} : ∀ {ds vs ns}, Reps H ρ vs ds → blsD ds = some ns → vs = ns.map V.bl
  | [], _, _, .nil, h => by cases h; rfl
  | .bl i :: r, _, _, .cons (.bl _) t, h => by
    simp only [blsD, Option.map_eq_some_iff] at h
    obtain ⟨ns, h, rfl⟩ := h
    rw [blsD_rep t h]; rfl
theorem intsD_map : ∀ ns : List Int, intsD (ns.map D.int) = some ns
  | [] => rfl
  | n :: r => by rw [List.map_cons, intsD, intsD_map r]; rfl
theorem blsD_map : ∀ ns : List Bool, blsD (ns.map D.bl) = some ns
  | [] => rfl
  | n :: r => by rw [List.map_cons, blsD, blsD_map r]; rfl
@[simp] def fSum : FnL
  | [.loc n], S => match S[n]? with
    | some (.lst ds) => match intsD ds with
      | some ns => .ok (.int ns.sum) S
      | none => .bad
    | _ => .bad
  | _, _ => .bad
@[simp] def fAll : FnL
  | [.loc n], S => match S[n]? with
    | some (.lst ds) => match blsD ds with
      | some ns => .ok (.bl (ns.all id)) S
      | none => .bad
    | _ => .bad
  | _, _ => .bad
@[simp] def fAny : FnL
  | [.loc n], S => match S[n]? with
    | some (.lst ds) => match blsD ds with
      | some ns => .ok (.bl (ns.any id)) S
      | none => .bad
    | _ => .bad
  | _, _ => .bad
theorem call_sumF (hc : X.calm = true) : CallF X E (.builtin "sum") fSum := by
  refine ⟨_, cr_sum hc, fun ρ S H xs ds Q s q h => ?_⟩
  unfold fSum at h
  split at h
  · split at h
    · rename_i hS
      split at h
      · rename_i hn
        obtain ⟨v, rfl, r⟩ := reps1 q
        cases r with
        | loc ea =>
          obtain ⟨ys, hx, qy⟩ := s.lst ea hS
          exact ⟨_, _, rfl, by rw [← intsD_rep qy hn]; exact .of hx, PostG.here h s (.int _)⟩
      · exact h.elim
    · exact h.elim
  · exact h.elim
theorem call_allF (hc : X.calm = true) : CallF X E (.builtin "all") fAll := by
  refine ⟨_, cr_all hc, fun ρ S H xs ds Q s q h => ?_⟩
  unfold fAll at h
  split at h
  · split at h
    · rename_i hS
      split at h
      · rename_i hn
        obtain ⟨v, rfl, r⟩ := reps1 q
        cases r with
        | loc ea =>
          obtain ⟨ys, hx, qy⟩ := s.lst ea hS
          exact ⟨_, _, rfl, by rw [← blsD_rep qy hn]; exact .of hx, PostG.here h s (.bl _)⟩
      · exact h.elim
    · exact h.elim
  · exact h.elim
theorem call_anyF (hc : X.calm = true) : CallF X E (.builtin "any") fAny := by
  refine ⟨_, cr_any hc, fun ρ S H xs ds Q s q h => ?_⟩
  unfold fAny at h
  split at h
  · split at h
    · rename_i hS
      split at h
      · rename_i hn
        obtain ⟨v, rfl, r⟩ := reps1 q
        cases r with
        | loc ea =>
          obtain ⟨ys, hx, qy⟩ := s.lst ea hS
          exact ⟨_, _, rfl, by rw [← blsD_rep qy hn]; exact .of hx, PostG.here h s (.bl _)⟩
      · exact h.elim
    · exact h.elim
  · exact h.elim
/-! ### slices -/
abbrev Mp := Sd → Sto → R (Option Int)
abbrev relP : Hp → List Addr → Option Int → Option Int → Prop := fun _ _ b c => b = c
abbrev FP (X : Cx) (E : XK) (e : Option Expr) (m : Mp) : Prop := PO X e (tG relP E m)
@[simp] def mNoP (_ : Sd) (S : Sto) : R (Option Int) := .ok none S
@[simp] def asP : D → Sto → R (Option Int)
  | .int i, S => .ok (some i) S
  | _, _ => .bad
@[simp] def mP (m : Me) (σ : Sd) (S : Sto) : R (Option Int) := (m σ S).bind asP
theorem po_imp {e : Option Expr} {t t' : TO} (h : PO X e t) (i : ∀ σ H Q, t' σ H Q → t σ H Q) : PO X e t' := ⟨fun pins s σ H Q I hw => h.run pins s σ H Q I (i _ _ _ hw)⟩
theorem fp_none : FP X E none mNoP := po_imp po_none fun σ H Q ⟨ρ, S, σd, s, r, h⟩ => h.here s rfl
theorem fp_some {e : Expr} (h : FE X E e ma) : FP X E (some e) (mP ma) := po_imp (po_some h) fun σ H Q ⟨ρ, S, σd, s, r, h⟩ => ⟨ρ, S, σd, s, r, (PostG.bind (rel := Rep) h).mono fun x H1 ⟨ρ1, S1, dx, e1, s1, q1, h1⟩ => by
  cases dx with
  | int i => cases q1; exact ⟨i, rfl, h1.here s1 rfl⟩
  | _ => exact h1.elim⟩
def cutD {α : Type} (xs : List α) (lo hi : Option Int) : List α := (xs.drop (HT.sIx xs.length 0 lo)).take (HT.sIx xs.length xs.length hi - HT.sIx xs.length 0 lo)
theorem cut_reps {H ρ vs ds} (q : Reps H ρ vs ds) (lo hi) : Reps H ρ (cutV vs lo hi) (cutD ds lo hi) := by
  unfold cutV cutD
  rw [q.length]
  exact (q.drop _).take _
theorem cutD_all {α β : Type} {xs : List β} {ds : List α} {l u : Option Int} (q : xs.length = ds.length) (hw : HT.sIx xs.length 0 l = 0 ∧ HT.sIx xs.length xs.length u = xs.length) : cutD ds l u = ds := by
  unfold cutD
  rw [← q, hw.1, hw.2, List.drop_zero, Nat.sub_zero, q, List.take_length]
noncomputable def fSl : D → Option Int → Option Int → Sto → R D
  | .loc n, lo, hi, S => match S[n]? with
    | some (.lst ds) => .ok (.loc S.length) (S ++ [.lst (cutD ds lo hi)])
    | _ => .bad
  | .tup ds, lo, hi, S => .ok (.tup (cutD ds lo hi)) S
  | .str x, lo, hi, S => if x.length ≤ sizeLine then .ok (.str (cutS x lo hi)) S else .bad
  | _, _, _, _ => .bad
@[simp] noncomputable def slK2 (x : D) (lo : Option Int) (hi : Option Int) (S : Sto) : R D := fSl x lo hi S
@[simp] noncomputable def slK1 (mh : Mp) (σ : Sd) (x : D) (lo : Option Int) (S : Sto) : R D := (mh σ S).bind (slK2 x lo)
@[simp] noncomputable def slK (ml mh : Mp) (σ : Sd) (x : D) (S : Sto) : R D := (ml σ S).bind (slK1 mh σ x)
@[simp] noncomputable def mSl (me : Me) (ml mh : Mp) (σ : Sd) (S : Sto) : R D := (me σ S).bind (slK ml mh σ)
theorem fe_slice {e : Expr} {lo hi : Option Expr} {ml mh : Mp} {p2 : Pos} (he : FE X E e ma) (hl : FP X E lo ml) (hh : FP X E hi mh) : FE X E (.Subscript e (.Slice lo hi none p2) pos) (mSl ma ml mh) := by
  refine pe_imp (pe_slice (SlR.or sl_list (SlR.or sl_tupA sl_str)) he hl hh) fun σ H Q ⟨ρ, S, σd, s, r, h⟩ => ⟨ρ, S, σd, s, r, (PostG.bind (rel := Rep) h).mono fun x H1 ⟨ρ1, S1, dx, e1, s1, q1, h1⟩ => ?_⟩
  refine ⟨ρ1, S1, σd, s1, r.ext s e1, (PostG.bind (rel := relP) h1).mono fun l H2 ⟨ρ2, S2, l', e2, s2, q2, h2⟩ => ?_⟩
  cases (show l = l' from q2)
  refine ⟨ρ2, S2, σd, s2, (r.ext s e1).ext s1 e2, (PostG.bind (rel := relP) h2).mono fun u H3 ⟨ρ3, S3, u', e3, s3, q3, h3⟩ => ?_⟩
  cases (show u = u' from q3)
  have rx := (q1.ext s1 e2).ext s2 e3
  unfold slK2 fSl at h3
  split at h3
  · split at h3
    · rename_i hS
      cases rx with
      | loc ea =>
        obtain ⟨ys, hx, qy⟩ := s3.lst ea hS
        exact .inl ⟨_, ys, rfl, .of hx, new_lst s3 (cut_reps qy _ _) h3⟩
    · exact h3.elim
  · cases rx with
    | tup hx q =>
      refine .inr (.inl ⟨_, _, rfl, .of hx, fun hw => ?_, fun _ => new_tup s3 (cut_reps q _ _) h3⟩)
      rw [cutD_all q.length hw] at h3
      exact h3.here s3 (.tup hx q)
  · split at h3
    · rename_i hz
      cases rx
      exact .inr (.inr ⟨_, rfl, hz, h3.here s3 (.str _)⟩)
    · exact h3.elim
  · exact h3.elim
/-! ### chains -/
@[simp] def chK3 (f2 : Fn2) (mc : Me) (y : D) (σ : Sd) (S : Sto) : R D := (mc σ S).bind (f2 y)
@[simp] def chK2 (f2 : Fn2) (mc : Me) (σ : Sd) (y : D) (k : Bool) (S : Sto) : R D := brK k (chK3 f2 mc y) (mC (.bl false)) σ S
@[simp] def chKb (f2 : Fn2) (mc : Me) (σ : Sd) (y : D) (z : D) (S : Sto) : R D := (asB z S).bind (chK2 f2 mc σ y)
@[simp] def chK1 (f1 f2 : Fn2) (mc : Me) (σ : Sd) (x y : D) (S : Sto) : R D := (f1 x y S).bind (chKb f2 mc σ y)
@[simp] def chK (f1 f2 : Fn2) (mb mc : Me) (σ : Sd) (x : D) (S : Sto) : R D := (mb σ S).bind (chK1 f1 f2 mc σ x)
@[simp] def mChain (f1 f2 : Fn2) (ma mb mc : Me) (σ : Sd) (S : Sto) : R D := (ma σ S).bind (chK f1 f2 mb mc σ)
theorem chain_of {f1 f2 : Fn2} {r1 r2 : R2} (h1 : R2Ok E r1 f1) (h2 : R2Ok E r2 f2) {σ H Q} (h : tF E (mChain f1 f2 ma mb mc) σ H Q) : tChain r1 r2 (tF E ma) (tF E mb) (tF E mc) σ H Q := by
  obtain ⟨ρ, S, σd, s, r, h⟩ := h
  refine ⟨ρ, S, σd, s, r, (PostG.bind (rel := Rep) h).mono fun x H1 ⟨ρ1, S1, dx, e1, s1, q1, h3⟩ => ?_⟩
  refine ⟨ρ1, S1, σd, s1, r.ext s e1, (PostG.bind (rel := Rep) h3).mono fun y H2 ⟨ρ2, S2, dy, e2, s2, q2, h4⟩ => ?_⟩
  refine h1 ρ2 S2 H2 x y dx dy _ s2 (q1.ext s1 e2) q2 ((PostG.bind (rel := Rep) h4).mono fun z H3 ⟨ρ3, S3, dz, e3, s3, q3, h5⟩ => ?_)
  obtain ⟨k, rfl, h6⟩ := asB_bind s3 q3 h5
  refine ⟨k, rfl, ?_⟩
  have r3 := ((r.ext s e1).ext s1 e2).ext s2 e3
  cases k with
  | true => rw [if_pos rfl]; exact ⟨ρ3, S3, σd, s3, r3, (PostG.bind (rel := Rep) h6).mono fun w H4 ⟨ρ4, S4, dw, e4, s4, q4, h7⟩ => h2 ρ4 S4 H4 y w dy dw Q s4 ((q2.ext s2 e3).ext s3 e4) q4 h7⟩
  | false => rw [if_neg Bool.false_ne_true]; exact h6.here s3 (.bl _)
theorem fe_chain {op1 op2 : CmpOp} {f1 f2 : Fn2} (h1 : OpF X E (compareOp op1) f1) (h2 : OpF X E (compareOp op2) f2) (ha : FE X E a ma) (hb : FE X E b mb) (hc : FE X E c mc)
    (hm : lastMarks [op1, op2] [b, c] = false := by with_unfolding_all rfl) : FE X E (.Compare a [op1, op2] [b, c] pos) (mChain f1 f2 ma mb mc) := by
  obtain ⟨r1, a1, b1⟩ := h1.ex
  obtain ⟨r2, a2, b2⟩ := h2.ex
  exact pe_imp (pe_chain a1 a2 ha hb hc hm) fun σ H Q h => chain_of b1 b2 h
theorem ft_chain {op1 op2 : CmpOp} {f1 f2 : Fn2} (h1 : OpF X E (compareOp op1) f1) (h2 : OpF X E (compareOp op2) f2) (ha : FE X E a ma) (hb : FE X E b mb) (hc : FE X E c mc)
    (hm : lastMarks [op1, op2] [b, c] = false := by with_unfolding_all rfl) : FT X E (.Compare a [op1, op2] [b, c] pos) (mTest (mChain f1 f2 ma mb mc)) := by
  obtain ⟨r1, a1, b1⟩ := h1.ex
  obtain ⟨r2, a2, b2⟩ := h2.ex
  exact pt_imp (pt_chain a1 a2 ha hb hc hm) fun σ H Q h => chain_of b1 b2 (tTest_of h)
/-! ### ranges that go down -/
def dnD (lo : Int) (n : Nat) : List D := (List.range n).map fun (i : Nat) => .int (lo - (i : Int))
theorem dnD_get (lo : Int) (n i : Nat) : (dnD lo n)[i]? = if i < n then some (.int (lo - i)) else none := by
  unfold dnD
  rw [List.getElem?_map]
  by_cases h : i < n
  · rw [if_pos h, List.getElem?_range h]; rfl
  · rw [if_neg h, List.getElem?_eq_none (by simpa using h)]; rfl
theorem relSrc_dn {H ρ lo n} : relSrc H ρ (Itc lo (-1) n) (.its (dnD lo n)) := fun i ρ' S' H' e s _ => by
  show (∀ d, (dnD lo n)[i]? = some d → _) ∧ ((dnD lo n)[i]? = none → _)
  rw [dnD_get]
  by_cases h : i < n
  · rw [if_pos h]
    refine ⟨fun d hd => ⟨h, fun x H'' y => ?_⟩, fun z => nomatch z⟩
    cases hd
    obtain ⟨rfl, rfl⟩ := y
    refine ⟨ρ', .refl, s, ?_⟩
    have : lo + (i : Int) * (-1) = lo - i := by omega
    rw [this]
    exact .int _
  · rw [if_neg h]
    exact ⟨fun d hd => (nomatch hd), fun _ => Nat.le_of_not_lt h⟩
@[simp] def fRg3 (ds : List D) (S : Sto) : R Src := match ds with
  | [.int i, .int j, .int k] => if (rgOk i && rgOk j && decide (k = -1)) = true then .ok (.its (dnD i (i - j).toNat)) S else .bad
  | _ => .bad
theorem fi_range3 {tg a b c : Expr} {m : Ma} {p pos : Pos} (hg : Gl X "range") (hm : X.mg "range" = none) (ha : FA X E [a, b, c] m)
    (hs : starEach [a, b, c] X.env = (false, eval a X.env) :: starEach [b, c] X.env := by rfl) (hpl : (backTo pos (starEach [b, c] X.env)).any (·.1) = false := by rfl) : FI X E tg (.Call (.Name "range" p) [a, b, c] [] pos) (iRg fRg3 m) :=
  pi_imp (pi_range3 hg hm ha hs hpl) fun σ H Q ⟨ρ, S, σd, s, r, h⟩ => ⟨ρ, S, σd, s, r, (PostG.bind (rel := Reps) h).mono fun vs H1 ⟨ρ1, S1, ds, e1, s1, q1, h1⟩ => by
    unfold fRg3 at h1
    split at h1
    · split at h1
      · rename_i hk
        simp only [Bool.and_eq_true, decide_eq_true_eq] at hk
        obtain ⟨⟨h2, h3⟩, rfl⟩ := hk
        cases q1 with
        | cons a1 q1 =>
          cases q1 with
          | cons a2 q1 =>
            cases q1 with
            | cons a3 q1 =>
              cases q1
              cases a1; cases a2; cases a3
              have hi := rgOk_iff.mp h2
              have hj := rgOk_iff.mp h3
              exact ⟨_, _, _, _, rfl, RgC.neg hi.1 hi.2 hj.1 hj.2, h1.here s1 relSrc_dn⟩
      · exact h1.elim
    · exact h1.elim⟩
end
end FL
set_option Elab.async false
set_option linter.all false
set_option maxRecDepth 100000
set_option maxHeartbeats 4000000
/-! FLd: walked dicts: a dict is locked while an expression, a statement runs. -/
namespace FL
open PySem PySem.Spec PyProof.Rows L2
variable [KMap]
/-- the locked form of a dict -/
@[simp] def frzO : O → Option O
  | .dK kvs => some (.fK kvs)
  | .dT kvs => some (.fT kvs)
  | _ => none
open Classical in
noncomputable def unlE (n : Nat) (o fo : O) (r : R D) : R D := match r with
  | .ok d S => if S[n]? = some fo then .ok d (S.set n o) else .bad
  | _ => .bad
theorem unlE_ok {n o fo d S} (h : S[n]? = some fo) : unlE n o fo (.ok d S) = .ok d (S.set n o) := if_pos h
open Classical in
noncomputable def unlS (n : Nat) (o fo : O) (r : Fl) : Fl := match r with
  | .nx σ S => if S[n]? = some fo then .nx σ (S.set n o) else .bad
  | .ret d S => if S[n]? = some fo then .ret d (S.set n o) else .bad
  | .brk σ S => if S[n]? = some fo then .brk σ (S.set n o) else .bad
  | .cont σ S => if S[n]? = some fo then .cont σ (S.set n o) else .bad
  | _ => .bad
theorem unlS_nx {n o fo d S} (h : S[n]? = some fo) : unlS n o fo (.nx d S) = .nx d (S.set n o) := if_pos h
theorem unlS_ret {n o fo d S} (h : S[n]? = some fo) : unlS n o fo (.ret d S) = .ret d (S.set n o) := if_pos h
@[simp] noncomputable def lckE (m : Me) (σ : Sd) (S : Sto) (n : Nat) (o : O) : R D := match frzO o with
  | some fo => unlE n o fo (m σ (S.set n fo))
  | none => m σ S
@[simp] noncomputable def lckS (m : Ms) (σ : Sd) (S : Sto) (n : Nat) (o : O) : Fl := match frzO o with
  | some fo => unlS n o fo (m σ (S.set n fo))
  | none => m σ S
/-- a tells the dict -/
@[simp] noncomputable def mLockE (a m : Me) (σ : Sd) (S : Sto) : R D := match a σ S with
  | .ok (.loc n) _ => match S[n]? with
    | some o => lckE m σ S n o
    | none => m σ S
  | _ => m σ S
@[simp] noncomputable def mLockS (a : Me) (m : Ms) (σ : Sd) (S : Sto) : Fl := match a σ S with
  | .ok (.loc n) _ => match S[n]? with
    | some o => lckS m σ S n o
    | none => m σ S
  | _ => m σ S
/-- Sim alone, behind a step that rewrites a tracked object -/
theorem Sim.set' {ρ S H a n o u w} (s : Sim ρ S H) (ha : ρ[n]? = some a) (hw : H a = some w) (hn : ∀ xs, w ≠ .tup xs) (hr : RepO (upd H a u) ρ a o) : Sim ρ (S.set n o) (upd H a u) := by
  have tt := tup_upd (u := u) hw hn
  refine ⟨by simp [s.len], s.nd, fun k x h => ?_⟩
  by_cases hk : n = k
  · subst hk
    have hS : n < S.length := by rw [← s.len]; exact lt_of_some ha
    rw [List.getElem?_set_self hS] at h
    cases h
    exact ⟨a, ha, hr⟩
  · rw [List.getElem?_set_ne hk] at h
    obtain ⟨b, e1, r⟩ := s.at_ k x h
    have hb : b ≠ a := by
      rintro rfl
      exact hk ((List.getElem?_inj (lt_of_some ha) s.nd).mp (by rw [ha, e1]))
    exact ⟨b, e1, r.mono (List.prefix_refl _) tt fun u h => by rw [upd_ne hb]; exact h⟩
/-- what is locked, and what is wanted of it -/
theorem lock_of {ρ : List Addr} {S : Sto} {H : Hp} {n : Nat} {a : Addr} {o fo : O} (s : Sim ρ S H) (ea : ρ[n]? = some a) (hS : S[n]? = some o) (hf : frzO o = some fo) :
    ∃ u, H a = some u ∧ Mut (some u) ∧ ∀ od, (∀ σ σd, SRep H ρ σ σd → SRep (upd H a (.frz od u)) ρ σ σd) ∧ Sim ρ (S.set n fo) (upd H a (.frz od u)) ∧
      ∀ ρ' S' H', Ext ρ (upd H a (.frz od u)) ρ' H' → Sim ρ' S' H' → S'[n]? = some fo → H' a = some (.frz od u) ∧ Ext ρ H ρ' (upd H' a u) ∧ Sim ρ' (S'.set n o) (upd H' a u) ∧ (∀ v d, Rep H' ρ' v d → Rep (upd H' a u) ρ' v d) ∧ (∀ σ σd, SRep H' ρ' σ σd → SRep (upd H' a u) ρ' σ σd) := by
  obtain ⟨b, eb, ro⟩ := s.at_ n o hS
  rw [ea] at eb; cases eb
  have key : ∃ u, H a = some u ∧ Mut (some u) ∧ noFz u = true ∧ (∀ xs, u ≠ .tup xs) ∧ (∀ od, RepO (upd H a (.frz od u)) ρ a fo) ∧ ∀ od ρ' H', H' a = some (.frz od u) → RepO H' ρ' a fo → RepO (upd H' a u) ρ' a o := by
    cases o with
    | dK kvs =>
      cases hf
      obtain ⟨ks, hk, q⟩ := ro
      refine ⟨_, hk, trivial, rfl, fun _ z => (nomatch z), fun od => ⟨od, ks, upd_same, q.mono (List.prefix_refl _) (tup_upd hk fun _ z => nomatch z)⟩, fun od ρ' H' h r => ?_⟩
      obtain ⟨od', ks', h', q'⟩ := r
      rw [h] at h'; cases h'
      exact ⟨ks, upd_same, q'.mono (List.prefix_refl _) (tup_upd h fun _ z => nomatch z)⟩
    | dT kvs =>
      cases hf
      obtain ⟨ks, hk, q⟩ := ro
      refine ⟨_, hk, trivial, rfl, fun _ z => (nomatch z), fun od => ⟨od, ks, upd_same, q.mono (List.prefix_refl _) (tup_upd hk fun _ z => nomatch z)⟩, fun od ρ' H' h r => ?_⟩
      obtain ⟨od', ks', h', q'⟩ := r
      rw [h] at h'; cases h'
      exact ⟨ks, upd_same, q'.mono (List.prefix_refl _) (tup_upd h fun _ z => nomatch z)⟩
    | _ => cases hf
  obtain ⟨u, hu, mu, nf, nt, lo, ul⟩ := key
  refine ⟨u, hu, mu, fun od => ?_⟩
  obtain ⟨e0, s0⟩ := s.set ea hu nf (lo od)
  refine ⟨fun σ σd r => r.ext s e0, s0, fun ρ' S' H' e' s' hS' => ?_⟩
  have ha' : H' a = some (.frz od u) := e'.fz a od u upd_same
  have ea' := prefix_get e'.pre ea
  have neA : ∀ {b o}, H b = some o → b ∉ ρ → b ≠ a := fun {b o} _ hn z => hn (by rw [z]; exact List.mem_of_getElem? ea)
  have tt := tup_upd (u := u) ha' (fun _ z => nomatch z)
  obtain ⟨b, eb, ro'⟩ := s'.at_ n _ hS'
  rw [ea'] at eb; cases eb
  refine ⟨ha', ⟨e'.pre, fun b hb hn => ?_, fun b o hb hn => ?_, fun b o x hb => ?_⟩, s'.set' ea' ha' (fun _ z => nomatch z) (ul od ρ' H' ha' ro'), fun v d r => r.mono (List.prefix_refl _) tt, fun σ σd r => ⟨r.len, fun i d h => let ⟨v, e1, q⟩ := r.at_ i d h; ⟨v, e1, q.mono (List.prefix_refl _) tt⟩⟩⟩
  · have := e'.new b hb hn
    by_cases hba : b = a
    · rw [hba, upd_same] at this; cases this
    · rw [upd_ne hba] at this; exact this
  · have hba := neA hb hn
    rw [upd_ne hba]
    exact e'.fr b o (by rw [upd_ne hba]; exact hb) hn
  · have hba : b ≠ a := fun z => by rw [z, hu] at hb; cases hb; cases nf
    rw [upd_ne hba]
    exact e'.fz b o x (by rw [upd_ne hba]; exact hb)
section
variable {X : Cx} {E : XK}
theorem fe_lock {e : Expr} {m : Me} (a : Me) (h : FE X E e m) : FE X E e (mLockE a m) := by
  refine pe_imp (pe_or (pe_lock h) h) fun σ H Q ⟨ρ, S, σd, s, r, hp⟩ => ?_
  unfold mLockE at hp
  split at hp
  · rename_i n S1 ha
    split at hp
    · rename_i o hS
      unfold lckE at hp
      split at hp
      · rename_i fo hf
        have hn : n < ρ.length := by rw [s.len]; exact lt_of_some hS
        obtain ⟨u, hu, mu, k⟩ := lock_of s (List.getElem?_eq_getElem hn) hS hf
        refine .inl ⟨_, u, hu, mu, fun od => ?_⟩
        obtain ⟨r0, s0, k⟩ := k od
        refine ⟨ρ, _, σd, s0, r0 _ _ r, ?_⟩
        revert hp
        generalize m σd (S.set n fo) = mm
        intro hp
        cases mm with
        | ok d S2 =>
          unfold unlE at hp
          simp only at hp
          split at hp
          · rename_i hS2
            intro v ρ' H' e' s' q
            obtain ⟨z1, z2, z3, z4, _⟩ := k ρ' S2 H' e' s' hS2
            exact ⟨z1, hp v ρ' _ z2 z3 (z4 _ _ q)⟩
          · exact hp.elim
        | exc _ _ _ => exact hp.elim
        | bad => exact hp.elim
      · exact .inr ⟨ρ, S, σd, s, r, hp⟩
    · exact .inr ⟨ρ, S, σd, s, r, hp⟩
  · exact .inr ⟨ρ, S, σd, s, r, hp⟩
theorem ps_or {e : Stmt} {t t' : TS} (h : PS X e t) (h' : PS X e t') : PS X e (fun D σ H => t D σ H ∨ t' D σ H) := ⟨fun pins s σ H D I hw => hw.elim (h.run pins s σ H D I) (h'.run pins s σ H D I)⟩
theorem fs_lock {e : Stmt} {m : Ms} (a : Me) (h : FS X E e m) : FS X E e (mLockS a m) := by
  refine ps_imp (ps_or (ps_lock h) h) fun D σ H ⟨ρ, S, σd, s, r, hp⟩ => ?_
  unfold mLockS at hp
  split at hp
  · rename_i n S1 ha
    split at hp
    · rename_i o hS
      unfold lckS at hp
      split at hp
      · rename_i fo hf
        have hn : n < ρ.length := by rw [s.len]; exact lt_of_some hS
        obtain ⟨u, hu, mu, k⟩ := lock_of s (List.getElem?_eq_getElem hn) hS hf
        refine .inl ⟨_, u, hu, mu, fun od => ?_⟩
        obtain ⟨r0, s0, k⟩ := k od
        refine ⟨ρ, _, σd, s0, r0 _ _ r, ?_⟩
        revert hp
        generalize m σd (S.set n fo) = mm
        intro hp
        cases mm with
        | nx d S2 =>
          unfold unlS at hp
          simp only at hp
          split at hp
          · rename_i hS2
            intro v ρ' H' e' s' q
            obtain ⟨z1, z2, z3, _, z4⟩ := k ρ' S2 H' e' s' hS2
            exact ⟨z1, hp v ρ' _ z2 z3 (z4 _ _ q)⟩
          · exact hp.elim
        | brk d S2 =>
          unfold unlS at hp
          simp only at hp
          split at hp
          · rename_i hS2
            intro v ρ' H' e' s' q
            obtain ⟨z1, z2, z3, _, z4⟩ := k ρ' S2 H' e' s' hS2
            exact ⟨z1, hp v ρ' _ z2 z3 (z4 _ _ q)⟩
          · exact hp.elim
        | cont d S2 =>
          unfold unlS at hp
          simp only at hp
          split at hp
          · rename_i hS2
            intro v ρ' H' e' s' q
            obtain ⟨z1, z2, z3, _, z4⟩ := k ρ' S2 H' e' s' hS2
            exact ⟨z1, hp v ρ' _ z2 z3 (z4 _ _ q)⟩
          · exact hp.elim
        | ret d S2 =>
          unfold unlS at hp
          simp only at hp
          split at hp
          · rename_i hS2
            intro v ρ' H' e' s' q
            obtain ⟨z1, z2, z3, z4, _⟩ := k ρ' S2 H' e' s' hS2
            exact ⟨z1, hp v ρ' _ z2 z3 (z4 _ _ q)⟩
          · exact hp.elim
        | exc _ _ _ => exact hp.elim
        | bad => exact hp.elim
      · exact .inr ⟨ρ, S, σd, s, r, hp⟩
    · exact .inr ⟨ρ, S, σd, s, r, hp⟩
  · exact .inr ⟨ρ, S, σd, s, r, hp⟩
end
end FL
set_option Elab.async false
set_option linter.all false
set_option maxRecDepth 100000
set_option maxHeartbeats 4000000
/-! FLe: classes: instances with positional fields, methods, __init__. -/
namespace FL
open PySem PySem.Spec PyProof.Rows L2
variable [KMap]
/-! ### fields by position -/
structure FldOk (K : PySem.W.Frag) (C i : Nat) (f : Str) : Prop where
  cls : Cls K (KMap.κ C)
  no : NoAttr K (KMap.κ C) f
  nm : (KMap.fl C)[i]? = some f
  nd : (KMap.fl C).Nodup
theorem lookup_at {v : V} {f : Str} : ∀ {gs : List (Str × V)} {i : Nat}, (gs.map (·.1)).Nodup → gs[i]? = some (f, v) → gs.lookup f = some v
  | [], _, _, h => by simp at h
  | g :: gs, 0, _, h => by
    have h : g = (f, v) := by simpa using h
    rw [h, List.lookup_cons_self]
  | g :: gs, i + 1, hn, h => by
    have hn := List.nodup_cons.mp (show (g.1 :: gs.map (·.1)).Nodup from hn)
    have h : gs[i]? = some (f, v) := by simpa using h
    have hm : f ∈ gs.map (·.1) := List.mem_map.mpr ⟨_, List.mem_of_getElem? h, rfl⟩
    have hne : ¬ f = g.1 := fun z => hn.1 (by rw [← z]; exact hm)
    have ih := lookup_at hn.2 h
    obtain ⟨g1, g2⟩ := g
    rw [List.lookup_cons]
    have : (f == g1) = false := by simpa using hne
    rw [this]; exact ih
theorem lookup_no {f : Str} : ∀ {gs : List (Str × V)}, f ∉ gs.map (·.1) → gs.lookup f = none
  | [], _ => rfl
  | (g1, g2) :: gs, h => by
    have h1 : ¬ f = g1 := fun z => h (by simp [z])
    rw [List.lookup_cons]
    have : (f == g1) = false := by simpa using h1
    rw [this]
    exact lookup_no fun z => h (by simp at z ⊢; exact .inr z)
/-- the heap's view of an instance of the store -/
theorem Sim.ins {ρ : List Addr} {S : Sto} {H : Hp} {n : Nat} {a : Addr} {C : Nat} {ds : List D} (s : Sim ρ S H) (ea : ρ[n]? = some a) (hS : S[n]? = some (.ins C ds)) : ∃ dx gs, H a = some (.ins (KMap.κ C) dx gs) ∧ gs.map (·.1) = (KMap.fl C).take ds.length ∧ Reps H ρ (gs.map (·.2)) ds := by
  obtain ⟨a', ea', x⟩ := s.at_ _ _ hS
  rw [ea] at ea'; cases ea'
  exact x
theorem fld_get {H : Hp} {ρ : List Addr} {K : PySem.W.Frag} {C i : Nat} {f : Str} {gs : List (Str × V)} {ds : List D} {d : D} (F : FldOk K C i f) (hn : gs.map (·.1) = (KMap.fl C).take ds.length) (q : Reps H ρ (gs.map (·.2)) ds) (hd : ds[i]? = some d) : ∃ v, gs.lookup f = some v ∧ Rep H ρ v d := by
  obtain ⟨v, hv, r⟩ := q.get hd
  have hi := lt_of_some hd
  rw [List.getElem?_map, Option.map_eq_some_iff] at hv
  obtain ⟨g, hg, rfl⟩ := hv
  have h1 : (gs.map (·.1))[i]? = some f := by rw [hn, List.getElem?_take_of_lt hi]; exact F.nm
  rw [List.getElem?_map, hg] at h1
  have h2 : g.1 = f := by simpa using h1
  refine ⟨g.2, lookup_at (i := i) (by rw [hn]; exact (List.take_sublist _ _).nodup F.nd) (by rw [hg, ← h2]), r⟩
def FldTab (K : PySem.W.Frag) (f : Str) (tab : List (Nat × Nat)) : Prop := ∀ C i, tab.lookup C = some i → FldOk K C i f
theorem fldTab_nil {K f} : FldTab K f [] := fun _ _ h => by cases h
theorem fldTab_cons {K f C i tab} (h : FldOk K C i f) (t : FldTab K f tab) : FldTab K f ((C, i) :: tab) := fun C' i' e => by
  rw [List.lookup_cons] at e
  split at e
  · rename_i hc
    cases e
    rw [beq_iff_eq.mp hc]; exact h
  · exact t _ _ e
section
variable {X : Cx} {E : XK} {pos : Pos} {o e value : Expr} {mo mv : Me} {f m : Str} {tab : List (Nat × Nat)}
/-- the field of an instance -/
def fldD (tab : List (Nat × Nat)) (x : D) (S : Sto) : Option D := match x with
  | .loc n => match S[n]? with
    | some (.ins C ds) => match tab.lookup C with
      | some i => ds[i]?
      | none => none
    | _ => none
  | _ => none
@[simp] def fFld (tab : List (Nat × Nat)) (x : D) (S : Sto) : R D := okO S (fldD tab x S)
@[simp] def mFld (tab : List (Nat × Nat)) (mo : Me) (σ : Sd) (S : Sto) : R D := (mo σ S).bind (fFld tab)
theorem fldD_some {x : D} {S : Sto} {d : D} (h : fldD tab x S = some d) : ∃ n C ds i, x = .loc n ∧ S[n]? = some (.ins C ds) ∧ tab.lookup C = some i ∧ ds[i]? = some d := by
  unfold fldD at h
  split at h
  · split at h
    · split at h
      · rename_i n _ C ds hS _ i hi
        exact ⟨_, _, _, _, rfl, hS, hi, h⟩
      · cases h
    · cases h
  · cases h
theorem fe_fld (F : FldTab X.K f tab) (ho : FE X E o mo) (hb : attributeBase o f X.env (eval o X.env) = eval o X.env := by rfl) : FE X E (.Attribute o f pos) (mFld tab mo) :=
  pe_imp (pe_fld ho hb) fun σ H Q ⟨ρ, S, σd, s, r, h⟩ => ⟨ρ, S, σd, s, r, (PostG.bind (rel := Rep) h).mono fun x H1 ⟨ρ1, S1, dx, e1, s1, q1, h1⟩ => by
    unfold fFld at h1
    cases hd : fldD tab dx S1 with
    | none => rw [hd] at h1; exact h1.elim
    | some d =>
      rw [hd] at h1
      obtain ⟨n, C, ds, i, rfl, hS, hi, hd⟩ := fldD_some hd
      cases q1 with
      | loc ea =>
        obtain ⟨dx, gs, ha, hn, q⟩ := s1.ins ea hS
        obtain ⟨v, hv, rv⟩ := fld_get (F C i hi) hn q hd
        exact ⟨_, _, dx, gs, v, rfl, ha, (F C i hi).cls, (F C i hi).no, hv, PostG.here h1 s1 rv⟩⟩
/-- o.f = v -/
def putFd (tab : List (Nat × Nat)) (x v : D) (S : Sto) : Option Sto := match x with
  | .loc n => match S[n]? with
    | some (.ins C ds) => match tab.lookup C with
      | some i => if ds.length < 1000 ∧ i ≤ ds.length then some (S.set n (.ins C (if i < ds.length then ds.set i v else ds ++ [v]))) else none
      | none => none
    | _ => none
  | _ => none
theorem putF_new {f : Str} {v : V} : ∀ {gs : List (Str × V)}, f ∉ gs.map (·.1) → putF f v gs = gs ++ [(f, v)]
  | [], _ => rfl
  | (g, x) :: r, h => by
    have h1 : ¬ g = f := fun z => h (by simp [z])
    show (if g = f then (g, v) :: r else (g, x) :: putF f v r) = _
    rw [if_neg h1, putF_new fun z => h (by simp at z ⊢; exact .inr z)]
    rfl
theorem putF_old {f : Str} {v : V} : ∀ {gs : List (Str × V)} {i : Nat} {w : V}, (gs.map (·.1)).Nodup → gs[i]? = some (f, w) → putF f v gs = gs.set i (f, v)
  | [], _, _, _, h => by simp at h
  | (g, x) :: r, 0, w, _, h => by
    have h : g = f ∧ x = w := by simpa using h
    show (if g = f then (g, v) :: r else (g, x) :: putF f v r) = _
    rw [if_pos h.1, h.1]; rfl
  | (g, x) :: r, i + 1, w, hn, h => by
    have hn := List.nodup_cons.mp (show (g :: r.map (·.1)).Nodup from hn)
    have h : r[i]? = some (f, w) := by simpa using h
    have hm : f ∈ r.map (·.1) := List.mem_map.mpr ⟨_, List.mem_of_getElem? h, rfl⟩
    have h1 : ¬ g = f := fun z => hn.1 (by rw [z]; exact hm)
    show (if g = f then (g, v) :: r else (g, x) :: putF f v r) = _
    rw [if_neg h1, putF_old hn.2 h]; rfl
theorem putFd_some {x v : D} {S S' : Sto} (h : putFd tab x v S = some S') : ∃ n C ds i, x = .loc n ∧ S[n]? = some (.ins C ds) ∧ tab.lookup C = some i ∧ ds.length < 1000 ∧ i ≤ ds.length ∧ S' = S.set n (.ins C (if i < ds.length then ds.set i v else ds ++ [v])) := by
  unfold putFd at h
  split at h
  · split at h
    · split at h
      · split at h
        · rename_i n _ C ds hS _ i hi hc
          cases h
          exact ⟨_, _, _, _, rfl, hS, hi, hc.1, hc.2, rfl⟩
        · cases h
      · cases h
    · cases h
  · cases h
theorem put_sim {ρ : List Addr} {S : Sto} {H : Hp} {n : Nat} {a dx : Addr} {C i : Nat} {gs : List (Str × V)} {ds : List D} {y : V} {dy : D} (s : Sim ρ S H) (ea : ρ[n]? = some a) (F : FldOk X.K C i f) (ha : H a = some (.ins (KMap.κ C) dx gs)) (hn : gs.map (·.1) = (KMap.fl C).take ds.length) (q : Reps H ρ (gs.map (·.2)) ds)
    (hi : i ≤ ds.length) (ry : Rep H ρ y dy) : Ext ρ H ρ (upd H a (.ins (KMap.κ C) dx (putF f y gs))) ∧ Sim ρ (S.set n (.ins C (if i < ds.length then ds.set i dy else ds ++ [dy]))) (upd H a (.ins (KMap.κ C) dx (putF f y gs))) := by
  have tt := tup_upd (u := .ins (KMap.κ C) dx (putF f y gs)) ha fun _ z => nomatch z
  have hlg : gs.length = ds.length := by have := q.length; rw [List.length_map] at this; exact this
  have hnd : (gs.map (·.1)).Nodup := by rw [hn]; exact (List.take_sublist _ _).nodup F.nd
  refine s.set (o := .ins C _) ea ha rfl ⟨dx, _, upd_same, ?_, ?_⟩
  · split
    · rename_i h
      have hg : (gs.map (·.1))[i]? = some f := by rw [hn, List.getElem?_take_of_lt h]; exact F.nm
      rw [List.getElem?_map, Option.map_eq_some_iff] at hg
      obtain ⟨g, hg, hgf⟩ := hg
      rw [putF_old (i := i) (w := g.2) hnd (by rw [hg, ← hgf]), List.map_set, hn, List.length_set]
      rw [← hn]
      refine List.ext_getElem? fun j => ?_
      by_cases hj : i = j
      · subst hj
        rw [List.getElem?_set_self (by rw [List.length_map]; omega), List.getElem?_map, hg]
        simp [hgf]
      · rw [List.getElem?_set_ne hj]
    · rename_i h
      have hii : i = ds.length := by omega
      have hno : f ∉ gs.map (·.1) := by
        rw [hn]
        intro hm
        obtain ⟨j, hj, e⟩ := List.getElem_of_mem hm
        rw [List.length_take] at hj
        rw [List.getElem_take] at e
        have e2 : (KMap.fl C)[j]? = some f := by rw [List.getElem?_eq_getElem (by omega), e]
        have := (List.getElem?_inj (by omega : j < (KMap.fl C).length) F.nd).mp (e2.trans F.nm.symm)
        omega
      rw [putF_new hno, List.map_append, hn, List.length_append, List.length_singleton, ← hii, List.take_add_one, F.nm]
      rfl
  · split
    · rename_i h
      have hg : (gs.map (·.1))[i]? = some f := by rw [hn, List.getElem?_take_of_lt h]; exact F.nm
      rw [List.getElem?_map, Option.map_eq_some_iff] at hg
      obtain ⟨g, hg, hgf⟩ := hg
      have hval : (putF f y gs).map (·.2) = (gs.map (·.2)).set i y := by rw [putF_old (i := i) (w := g.2) hnd (by rw [hg, ← hgf]), List.map_set]
      rw [hval]
      exact (q.set ry i).mono (List.prefix_refl _) tt
    · rename_i h
      have hii : i = ds.length := by omega
      have hno : f ∉ gs.map (·.1) := by
        rw [hn]
        intro hm
        obtain ⟨j, hj, e⟩ := List.getElem_of_mem hm
        rw [List.length_take] at hj
        rw [List.getElem_take] at e
        have e2 : (KMap.fl C)[j]? = some f := by rw [List.getElem?_eq_getElem (by omega), e]
        have := (List.getElem?_inj (by omega : j < (KMap.fl C).length) F.nd).mp (e2.trans F.nm.symm)
        omega
      have hval : (putF f y gs).map (·.2) = gs.map (·.2) ++ [y] := by rw [putF_new hno, List.map_append]; rfl
      rw [hval]
      exact (q.snoc ry).mono (List.prefix_refl _) tt
@[simp] def sfK2 (tab : List (Nat × Nat)) (v : D) (σ : Sd) (x : D) (S : Sto) : Fl := nxO σ (putFd tab x v S)
@[simp] def sfK (tab : List (Nat × Nat)) (mo : Me) (σ : Sd) (v : D) (S : Sto) : Fl := (mo σ S).fl (sfK2 tab v σ)
@[simp] def mSetF (tab : List (Nat × Nat)) (mo mv : Me) (σ : Sd) (S : Sto) : Fl := (mv σ S).fl (sfK tab mo σ)
theorem fs_fld {pos' : Pos} (F : FldTab X.K f tab) (ho : FE X E o mo) (hv : FE X E value mv) (hs : swapsWith value (some (.Attribute o f pos')) pos.line X.env = pure false := by rfl) : FS X E (.Assign [.Attribute o f pos'] value pos) (mSetF tab mo mv) :=
  ps_imp (ps_fld ho hv hs) fun D σ H ⟨ρ, S, σd, s, r, h⟩ => ⟨ρ, S, σd, s, r, (PostG.fl (rel := Rep) h).mono fun y H1 ⟨ρ1, S1, dy, e1, s1, q1, h1⟩ => by
    refine ⟨ρ1, S1, σd, s1, r.ext s e1, (PostG.fl (rel := Rep) h1).mono fun x H2 ⟨ρ2, S2, dx, e2, s2, q2, h2⟩ => ?_⟩
    unfold sfK2 at h2
    cases hp : putFd tab dx dy S2 with
    | none => rw [hp] at h2; exact h2.elim
    | some S3 =>
      rw [hp] at h2
      obtain ⟨n, C, ds, i, rfl, hS, hi, hz, hle, rfl⟩ := putFd_some hp
      cases q2 with
      | loc ea =>
        obtain ⟨dx, gs, ha, hn, q⟩ := s2.ins ea hS
        have hlg : gs.length = ds.length := by have := q.length; rw [List.length_map] at this; exact this
        obtain ⟨e3, s3⟩ := put_sim s2 ea (F C i hi) ha hn q hle (q1.ext s1 e2)
        exact ⟨_, _, dx, gs, rfl, ha, (F C i hi).cls, (F C i hi).no, by rw [hlg]; exact hz, h2 σ ρ2 _ e3 s3 (((r.ext s e1).ext s1 e2).ext s2 e3)⟩⟩
/-! ### methods -/
structure MetOk (P : Program) (w : World) (K : PySem.W.Frag) (mg : Str → Option Value) (base : Heap) (k C : Nat) (m : Str) (f : FnL) : Prop where
  ex : ∃ fa fd ps, FnOk P w K mg base CX0 k fa fd ps (spF f) ∧ Cls K (KMap.κ C) ∧ Meth K (KMap.κ C) m fa ∧ Binds K fd ps [] ∧ m ∉ KMap.fl C
def MetTab (P : Program) (w : World) (K : PySem.W.Frag) (mg : Str → Option Value) (base : Heap) (k : Nat) (m : Str) (tab : List (Nat × FnL)) : Prop := ∀ C f, tab.lookup C = some f → MetOk P w K mg base k C m f
theorem metTab_nil {P w K mg base k m} : MetTab P w K mg base k m [] := fun _ _ h => by cases h
theorem metTab_cons {P w K mg base k j m C f tab} (h : MetOk P w K mg base j C m f) (t : MetTab P w K mg base k m tab) (hjk : j ≤ k := by decide) : MetTab P w K mg base k m ((C, f) :: tab) := fun C' f' e => by
  rw [List.lookup_cons] at e
  split at e
  · rename_i hc
    cases e
    rw [beq_iff_eq.mp hc]
    obtain ⟨fa, fd, ps, h1, h2⟩ := h.ex
    exact ⟨fa, fd, ps, h1.mono hjk, h2⟩
  · exact t _ _ e
/-- which method -/
def metF (tab : List (Nat × FnL)) (x : D) (S : Sto) : Option FnL := match x with
  | .loc n => match S[n]? with
    | some (.ins C ds) => tab.lookup C
    | _ => none
  | _ => none
@[simp] def meK2 (f : FnL) (x : D) (ds : List D) (S : Sto) : R D := f (x :: ds) S
@[simp] def meK1 (ma : Ma) (σ : Sd) (x : D) (S : Sto) : Option FnL → R D
  | some f => (ma σ S).bind (meK2 f x)
  | none => .bad
@[simp] def meK (tab : List (Nat × FnL)) (ma : Ma) (σ : Sd) (x : D) (S : Sto) : R D := meK1 ma σ x S (metF tab x S)
@[simp] def mMeth (tab : List (Nat × FnL)) (mo : Me) (ma : Ma) (σ : Sd) (S : Sto) : R D := (mo σ S).bind (meK tab ma σ)
theorem metF_some {mt : List (Nat × FnL)} {x : D} {S : Sto} {f : FnL} (h : metF mt x S = some f) : ∃ n C ds, x = .loc n ∧ S[n]? = some (.ins C ds) ∧ mt.lookup C = some f := by
  unfold metF at h
  split at h
  · split at h
    · rename_i n _ C ds hS
      exact ⟨_, _, _, rfl, hS, h⟩
    · cases h
  · cases h
theorem lookup_ne {mt : List (Nat × FnL)} (h : mt ≠ []) : ∃ C f, mt.lookup C = some f := by
  cases mt with
  | nil => exact absurd rfl h
  | cons p r => exact ⟨p.1, p.2, List.lookup_cons_self⟩
theorem pe_pick {e : Expr} {T : TE} (h : ∀ σ H Q, T σ H Q → ∃ t, PE X e t ∧ t σ H Q) : PE X e T := ⟨fun pins s σ H Q I hw => let ⟨t, h1, h2⟩ := h σ H Q hw; h1.run pins s σ H Q I h2⟩
variable {mt : List (Nat × FnL)} {k j : Nat} {apos : Pos} {es : List Expr} {t : Ma} {pl : Sem Bool}
theorem fe_meth (F : MetTab X.prog X.w X.K X.mg X.base k m mt) (hr : Room j X.A) (ho : FE X E o mo) (ha : FA X E (e :: es) t) (hkj : k ≤ j := by decide)
    (hst : starEach (e :: es) X.env = (false, eval e X.env) :: starEach es X.env := by rfl) (hpl : (backTo pos (starEach es X.env)).any (·.1) = false := by rfl)
    (ht : eval (.Call (.Attribute o m apos) (e :: es) [] pos) X.env = (do
      let ov ← eval o X.env
      standAt apos.atName
      let (f, first) ← holding [ov] (getMethod ov m pl)
      callWith pos f first (backTo pos (starEach (e :: es) X.env)) (backToKw pos (keywordEach [] X.env))) := by rfl)
    (hne : mt ≠ [] := by exact List.cons_ne_nil _ _) : FE X E (.Call (.Attribute o m apos) (e :: es) [] pos) (mMeth mt mo t) := by
  refine pe_pick fun σ H Q ⟨ρ, S, σd, s, r, h⟩ => ?_
  have go : ∀ C f, mt.lookup C = some f → (∀ v ρ1 S1 H1 d, mo σd S = .ok d S1 → Ext ρ H ρ1 H1 → Sim ρ1 S1 H1 → Rep H1 ρ1 v d → ∃ n ds, d = .loc n ∧ S1[n]? = some (.ins C ds)) →
      ∃ t, PE X (.Call (.Attribute o m apos) (e :: es) [] pos) t ∧ t σ H Q := by
    intro C f hC hcl
    obtain ⟨fa, fd, ps, h1, h2, h3, h4, h5⟩ := (F C f hC).ex
    refine ⟨_, pe_meth (pl := pl) (E := E) ho h2 h3 h1 (hr.mono hkj) h4 .nil pass0' ha hst hpl ht, ρ, S, σd, s, r, ?_⟩
    have h : PostG Rep E ρ H Q ((mo σd S).bind (meK mt t σd)) := h
    revert h hcl
    generalize mo σd S = mm
    cases mm with
    | bad => exact fun _ h => h
    | exc c fs S1 => exact fun _ h => h
    | ok d S1 =>
      intro hcl h v ρ1 H1 e1 s1 q1
      obtain ⟨n, ds, rfl, hS⟩ := hcl v ρ1 S1 H1 d rfl e1 s1 q1
      cases q1 with
      | loc ea =>
        obtain ⟨dx, gs, hx, hn, q⟩ := s1.ins ea hS
        refine ⟨_, dx, gs, rfl, hx, lookup_no (fun z => h5 (by rw [hn] at z; exact List.mem_of_mem_take z)), ρ1, S1, σd, s1, r.ext s e1, ?_⟩
        have h : PostG Rep E ρ H Q (meK mt t σd (.loc n) S1) := h
        have hm : metF mt (.loc n) S1 = some f := by simp only [metF, hS, hC]
        simp only [meK, hm, meK1] at h
        refine (PostG.bind (rel := Reps) (PostG.weak h e1)).mono fun vs H2 ⟨ρ2, S2, ds2, e2, s2, q2, h6⟩ => ?_
        exact ⟨ρ2, S2, .loc n :: ds2, s2, .cons ((Rep.loc ea).ext s1 e2) (by rw [List.append_nil]; exact q2), h6⟩
  cases hm : mo σd S with
  | ok d S1 =>
    cases hf : metF mt d S1 with
    | none =>
      have h : PostG Rep E ρ H Q ((mo σd S).bind (meK mt t σd)) := h
      rw [hm, R.bind_ok] at h
      simp only [meK, hf, meK1] at h
      exact h.elim
    | some f =>
      obtain ⟨n, C, ds, rfl, hS, hC⟩ := metF_some hf
      refine go C f hC fun v ρ1 S1' H1 d' e _ _ _ => ?_
      rw [hm] at e; cases e
      exact ⟨n, ds, rfl, hS⟩
  | exc c fs S1 =>
    obtain ⟨C, f, hC⟩ := lookup_ne hne
    exact go C f hC fun v ρ1 S1' H1 d' e => by rw [hm] at e; cases e
  | bad =>
    obtain ⟨C, f, hC⟩ := lookup_ne hne
    exact go C f hC fun v ρ1 S1' H1 d' e => by rw [hm] at e; cases e
end
end FL
set_option Elab.async false
set_option linter.all false
set_option maxRecDepth 100000
set_option maxHeartbeats 4000000
/-! FL7: defs by name. -/
namespace FL
open PySem PySem.Spec PyProof.Rows L2
variable [KMap]
structure DefOk (P : Program) (w : World) (K : PySem.W.Frag) (mg : Str → Option Value) (base : Heap) (k : Nat) (x : Str) (ps : List Str) (f : FnL) : Prop where
  ex : ∃ fa fd, FnOk P w K mg base CX0 k fa fd ps (spF f) ∧ mg x = some (.ref fa) ∧ PySem.W.keepIn K (.ref fa) = true ∧ Binds K fd ps []
section
variable {X : Cx} {E : XK} {pos p : Pos} {k j : Nat} {x : Str} {ps : List Str} {f : FnL} {e : Expr} {es : List Expr} {t : Ma}
theorem fe_callD (F : DefOk X.prog X.w X.K X.mg X.base k x ps f) (hr : Room j X.A) (hg : Gl X x) (ha : FA X E (e :: es) t) (hkj : k ≤ j := by decide)
    (hdb : (x == ("__debug__" : Str)) = false := by decide) (he : starEach (e :: es) X.env = (false, eval e X.env) :: starEach es X.env := by rfl) (hpl : (backTo pos (starEach es X.env)).any (·.1) = false := by rfl) :
    FE X E (.Call (.Name x p) (e :: es) [] pos) (mL f t) := by
  obtain ⟨fa, fd, F, hm, hk, hb⟩ := F.ex
  exact fe_call F (hr.mono hkj) hg hm hk hb pass0' ha hdb he hpl
theorem fe_callD0 (F : DefOk X.prog X.w X.K X.mg X.base k x ps f) (hr : Room j X.A) (hg : Gl X x) (hkj : k ≤ j := by decide)
    (hdb : (x == ("__debug__" : Str)) = false := by decide) : FE X E (.Call (.Name x p) [] [] pos) (mL f aNil) := by
  obtain ⟨fa, fd, F, hm, hk, hb⟩ := F.ex
  exact fe_call0 F (hr.mono hkj) hg hm hk hb pass0' hdb
theorem fv (i : Nat) (hN : X.N[i]? = some x := by rfl) (hv : Vis X.env.scope x := by first | exact Or.inl rfl | exact Or.inr (Or.inl rfl) | exact Or.inr (Or.inr rfl)) (hd : (x == ("__debug__" : Str)) = false := by decide)
    (hcd : (x == ("__classdict__" : Str)) = false := by decide) : FE X E (.Name x pos) (mVar i) := fe_var hN hv hd hcd
end
section
variable {P : Program} {w : World} {K : PySem.W.Frag} {mg : Str → Option Value} {base : Heap} {x qual : Str} {params : Arguments} {body : List Stmt} {scope : Scope} {fa : Addr} {fd : FuncData}
theorem okFD {N ps : List Str} {k : Nat} {m : Ms} (F : FunD K x qual params body scope [] [] fa fd) (S : FnScope N ps scope) (hN : ps.length ≤ N.length)
    (hbody : ∀ (cdv : Value) (A : Around) (outer : List Env) (s : Shared) (H : Hp) (E : XK), Room k (A.deeper (envOfC qual scope s.heap.objs.size fa cdv)) →
      FSs (cxOf CX0 P w K mg base N qual scope fa cdv A outer s H E).nox E body m) : FnOk P w K mg base CX0 (k + 1) fa fd ps (spF (runB ps.length N.length m)) := by
  refine F.ok S (fun vs H Q E ⟨ρ, S, ds, s, q, h⟩ => ?_) fun cdv A outer s H vs Q E hr ⟨ρ, S, ds, s', q, h⟩ => ⟨_, PSs.nox (hbody cdv A outer s H E hr), runB_body s' q hN h⟩
  rw [q.length]
  exact runB_len h
theorem okDef {N ps : List Str} {k : Nat} {m : Ms} (F : FunD K x qual params body scope [] [] fa fd) (g : mg x = some (.ref fa)) (S : FnScope N ps scope)
    (hb : ∀ (kV doc pm : Value) (an : Option Addr) (cdv ct : Value) (us : List Value), us.length = ps.length → bindArgs (PySem.W.fnOf x qual params body scope .none kV doc pm an cdv ct) ⟨us, []⟩ = pure (ps.zip us))
    (hbody : ∀ (cdv : Value) (A : Around) (outer : List Env) (s : Shared) (H : Hp) (E : XK), Room k (A.deeper (envOfC qual scope s.heap.objs.size fa cdv)) →
      FSs (cxOf CX0 P w K mg base N qual scope fa cdv A outer s H E).nox E body m) (hN : ps.length ≤ N.length := by decide) : DefOk P w K mg base (k + 1) x ps (runB ps.length N.length m) :=
  ⟨fa, fd, okFD F S hN hbody, g, F.kp, F.bindsN hb⟩
end
/-! ### the law's first row: d = _law_begin(script) -/
section
variable {P : Program} {w : World} {K : PySem.W.Frag} {mg : Str → Option Value} {base : Heap}
/-- what _law_begin promises: the script's ints in a new list, in a new list with two noughts and an eleven -/
def spBegin (K : PySem.W.Frag) : Sp := fun vs H Q _ => ∃ (a : Addr) (ns : List Int), vs = [.ref a] ∧ SqL K H a (ns.map V.int) ∧ ns.length ≤ 63 ∧
  ∀ H' p q, Same H H' → H p = none → H q = none → p ≠ q → H' p = some (.lst (ns.map V.int)) → H' q = some (.lst [.ref p, .int 0, .int 0, .int 11]) → Q (.ref q) H'
def begSto (ns : List Int) : Sto := [.lst (ns.map D.int), .lst [.loc 0, .int 0, .int 0, .int 11]]
theorem Reps.ints {H ρ} : ∀ ns : List Int, Reps H ρ (ns.map V.int) (ns.map D.int)
  | [] => .nil
  | _ :: r => .cons (.int _) (Reps.ints r)
theorem beg_sim {H' : Hp} {p q : Addr} {ns : List Int} (hpq : p ≠ q) (hp : H' p = some (.lst (ns.map V.int))) (hq : H' q = some (.lst [.ref p, .int 0, .int 0, .int 11])) : Sim [p, q] (begSto ns) H' := by
  refine ⟨rfl, by simp [hpq], fun n o h => ?_⟩
  match n, h with
  | 0, h =>
    cases h
    exact ⟨p, rfl, _, hp, .ints ns⟩
  | 1, h =>
    cases h
    exact ⟨q, rfl, _, hq, .cons (.loc rfl) (.cons (.int _) (.cons (.int _) (.cons (.int _) .nil)))⟩
  | n + 2, h => simp [begSto] at h
end
/-- the reading of _law_begin's body -/
abbrev tBeg (K : PySem.W.Frag) : TS := tRet (tLst (tCons (tLc (iList K (tVar 0)) (gName 1) tYes (tCB (fun xs H Q => (∃ i, xs = [.int i] ∧ Q (.int i) H) ∨ ∃ k, xs = [.bl k] ∧ Q (.int (if k then 1 else 0)) H) (tCons (tVar 1) tNil)) [1])
  (tCons (tC (.int 0)) (tCons (tC (.int 0)) (tCons (tC (.int 11)) tNil)))))
theorem beg_reads {K : PySem.W.Frag} {vs : List V} {H : Hp} {Q : VK} {E : XK} (h : spBegin K vs H Q E) : tBeg K { nx := fun _ H' => Q .non H', rt := Q } (L2.start ["script", "cell"] vs) H := by
  obtain ⟨a, ns, rfl, hS, hl, q⟩ := h
  refine ⟨.ref a, rfl, a, rfl, ⟨_, hS⟩, fun D hD => ?_⟩
  have sm : ∀ xs, Same H (upd H D (.lst xs)) := fun xs b o e => by rw [upd_ne (ne_of_none e hD)]; exact e
  refine lc_list (xs := ns.map V.int) (fun i H' => H' = upd H D (.lst ((ns.map V.int).take i))) rfl (fun i H' _ e => by subst e; exact (sm _).seq hS) (fun i x H' hx e => ?_) fun H' e => ?_
  · subst e
    rw [List.getElem?_map] at hx
    cases hn : ns[i]? with
    | none => rw [hn] at hx; cases hx
    | some k =>
      rw [hn] at hx
      cases hx
      refine ⟨rfl, ?_⟩
      dsimp only [tYes]
      rw [if_pos rfl]
      refine ⟨.int k, rfl, .inl ⟨k, rfl, _, upd_same, ?_, ?_⟩⟩
      · rw [List.length_take, List.length_map]
        have : 63 < sizeLine := by decide
        omega
      · rw [upd_upd, List.take_add_one, List.getElem?_map, hn]
        rfl
  · subst e
    refine ⟨(by show 4 ≤ sizeLine; decide), fun p hp => ?_⟩
    have et : (ns.map V.int).take (ns.map V.int).length = ns.map V.int := List.take_length
    rw [et] at hp ⊢
    have hpD : D ≠ p := fun z => by rw [← z, upd_same] at hp; cases hp
    have hpH : H p = none := by rw [upd_ne (Ne.symm hpD)] at hp; exact hp
    refine q _ D p (fun b o e => ?_) hD hpH hpD (by rw [upd_ne hpD, upd_same]) upd_same
    rw [upd_ne (ne_of_none e hpH)]
    exact sm _ b o e
/-- what the law promises -/
def spLaw (K : PySem.W.Frag) : Sp := fun vs H Q _ => ∃ (a : Addr) (ns : List Int), vs = [.ref a] ∧ SqL K H a (ns.map V.int) ∧ ns.length ≤ 63 ∧ ∀ H', Q (.bl true) H'
theorem law_reads {K : PySem.W.Frag} {N : List Str} {m : Ms} {vs : List V} {H : Hp} {Q : VK} {E E' : XK} {n : Nat} (hN : N.length = n + 2)
    (M : ∀ ns : List Int, ns.length ≤ 63 → ∃ S', m (none :: some (.loc 1) :: List.replicate n none) (begSto ns) = .ret (.bl true) S') (h : spLaw K vs H Q E) :
    tSeq (tAsg (tCall (spBegin K) [] E' (tCons (tVar 0) tNil)) (gName 1)) (tFS E m) { nx := fun _ H' => Q .non H', rt := Q } (L2.start N vs) H := by
  obtain ⟨a, ns, rfl, hS, hl, q⟩ := h
  have es : L2.start N [.ref a] = some (.ref a) :: none :: List.replicate n none := by
    unfold L2.start
    rw [hN]
    rfl
  rw [es]
  refine ⟨.ref a, rfl, a, ns, rfl, hS, hl, fun H' p r sm hp hr hpr e1 e2 => ?_⟩
  obtain ⟨S', em⟩ := M ns hl
  refine ⟨[p, r], begSto ns, none :: some (.loc 1) :: List.replicate n none, beg_sim hpr e1 e2, ⟨by simp, fun i d h => ?_⟩, ?_⟩
  · match i, h with
    | 0, h => cases h
    | 1, h => cases h; exact ⟨.ref r, rfl, .loc rfl⟩
    | i + 2, h =>
      have h : (List.replicate n (none : Option D))[i]? = some (some d) := by simpa using h
      rw [List.getElem?_replicate] at h
      split at h <;> cases h
  · rw [em]
    intro v ρ' H'' _ _ r
    cases r
    exact q H''
end FL
set_option Elab.async false
set_option linter.all false
set_option maxRecDepth 100000
set_option maxHeartbeats 4000000
/-! FLf: o.m(), C(..), the defs of classes. -/
namespace FL
open PySem PySem.Spec PyProof.Rows L2
variable [KMap]
section
variable {X : Cx} {E : XK} {pos p : Pos} {o e : Expr} {mo : Me} {m x : Str} {mt : List (Nat × FnL)} {k j C : Nat} {apos : Pos} {es : List Expr} {t : Ma} {pl : Sem Bool} {f : FnL}
theorem fe_meth0 (F : MetTab X.prog X.w X.K X.mg X.base k m mt) (hr : Room j X.A) (ho : FE X E o mo) (hkj : k ≤ j := by decide)
    (ht : eval (.Call (.Attribute o m apos) [] [] pos) X.env = (do
      let ov ← eval o X.env
      standAt apos.atName
      let (f, first) ← holding [ov] (getMethod ov m pl)
      callWith pos f first (backTo pos (starEach [] X.env)) (backToKw pos (keywordEach [] X.env))) := by rfl)
    (hne : mt ≠ [] := by exact List.cons_ne_nil _ _) : FE X E (.Call (.Attribute o m apos) [] [] pos) (mMeth mt mo aNil) := by
  refine pe_pick fun σ H Q ⟨ρ, S, σd, s, r, h⟩ => ?_
  have go : ∀ C f, mt.lookup C = some f → (∀ v ρ1 S1 H1 d, mo σd S = .ok d S1 → Ext ρ H ρ1 H1 → Sim ρ1 S1 H1 → Rep H1 ρ1 v d → ∃ n ds, d = .loc n ∧ S1[n]? = some (.ins C ds)) →
      ∃ t, PE X (.Call (.Attribute o m apos) [] [] pos) t ∧ t σ H Q := by
    intro C f hC hcl
    obtain ⟨fa, fd, ps, h1, h2, h3, h4, h5⟩ := (F C f hC).ex
    refine ⟨_, pe_meth0 (pl := pl) (E := E) ho h2 h3 h1 (hr.mono hkj) h4 .nil pass0' ht, ρ, S, σd, s, r, ?_⟩
    have h : PostG Rep E ρ H Q ((mo σd S).bind (meK mt aNil σd)) := h
    revert h hcl
    generalize mo σd S = mm
    cases mm with
    | bad => exact fun _ h => h
    | exc c fs S1 => exact fun _ h => h
    | ok d S1 =>
      intro hcl h v ρ1 H1 e1 s1 q1
      obtain ⟨n, ds, rfl, hS⟩ := hcl v ρ1 S1 H1 d rfl e1 s1 q1
      cases q1 with
      | loc ea =>
        obtain ⟨dx, gs, hx, hn, q⟩ := s1.ins ea hS
        refine ⟨_, dx, gs, rfl, hx, lookup_no (fun z => h5 (by rw [hn] at z; exact List.mem_of_mem_take z)), ?_⟩
        have h : PostG Rep E ρ H Q (meK mt aNil σd (.loc n) S1) := h
        have hm : metF mt (.loc n) S1 = some f := by simp only [metF, hS, hC]
        simp only [meK, hm, meK1, aNil, R.bind_ok, meK2] at h
        exact ⟨ρ1, S1, [.loc n], s1, .cons (.loc ea) .nil, PostG.weak h e1⟩
  cases hm : mo σd S with
  | ok d S1 =>
    cases hf : metF mt d S1 with
    | none =>
      have h : PostG Rep E ρ H Q ((mo σd S).bind (meK mt aNil σd)) := h
      rw [hm, R.bind_ok] at h
      simp only [meK, hf, meK1] at h
      exact h.elim
    | some f =>
      obtain ⟨n, C, ds, rfl, hS, hC⟩ := metF_some hf
      refine go C f hC fun v ρ1 S1' H1 d' e _ _ _ => ?_
      rw [hm] at e; cases e
      exact ⟨n, ds, rfl, hS⟩
  | exc c fs S1 =>
    obtain ⟨C, f, hC⟩ := lookup_ne hne
    exact go C f hC fun v ρ1 S1' H1 d' e => by rw [hm] at e; cases e
  | bad =>
    obtain ⟨C, f, hC⟩ := lookup_ne hne
    exact go C f hC fun v ρ1 S1' H1 d' e => by rw [hm] at e; cases e
/-! ### C(..) -/
structure MkOk (P : Program) (w : World) (K : PySem.W.Frag) (mg : Str → Option Value) (base : Heap) (k C : Nat) (x : Str) (f : FnL) : Prop where
  ex : ∃ fa fd ps, FnOk P w K mg base CX0 k fa fd ps (spF f) ∧ Mk K (KMap.κ C) fa ∧ Binds K fd ps [] ∧ mg x = some (.ref (KMap.κ C))
@[simp] def mkK2 (n : Nat) (v : D) (S : Sto) : R D := match v with
  | .non => .ok (.loc n) S
  | _ => .bad
@[simp] def mkK (C : Nat) (f : FnL) (ds : List D) (S : Sto) : R D := (f (.loc S.length :: ds) (S ++ [.ins C []])).bind (mkK2 S.length)
@[simp] def mMake (C : Nat) (f : FnL) (t : Ma) (σ : Sd) (S : Sto) : R D := (t σ S).bind (mkK C f)
theorem make_of {ρ : List Addr} {S : Sto} {H : Hp} {vs : List V} {ds : List D} {Q : VK} (s : Sim ρ S H) (q : Reps H ρ vs ds) (h : PostG Rep E ρ H Q (mkK C f ds S)) : ∀ x dx, H x = none → H dx = none → dx ≠ x →
    spF f (.ref x :: (vs ++ [])) (upd (upd H dx (.own x)) x (.ins (KMap.κ C) dx [])) (fun v H2 => v = .non ∧ Q (.ref x) H2) E := fun x dx hx hdx hne => by
  obtain ⟨e1, s1⟩ := s.lay (o := .own x) hdx
  have hx1 : upd H dx (.own x) x = none := by rw [upd_ne (Ne.symm hne)]; exact hx
  obtain ⟨e2, s2⟩ := s1.new (o := .ins C []) (u := .ins (KMap.κ C) dx []) hx1 ⟨dx, [], upd_same, by simp, .nil⟩
  have e := e1.trans e2
  have hat : (ρ ++ [x])[S.length]? = some x := by rw [← s.len]; simp
  refine ⟨_, _, .loc S.length :: ds, s2, .cons (.loc hat) (by rw [List.append_nil]; exact q.ext s e), ?_⟩
  refine (PostG.bind (rel := Rep) (PostG.weak h e)).mono fun v H2 ⟨ρ2, S2, d, e3, s3, q3, h3⟩ => ?_
  cases d with
  | non =>
    cases q3
    exact ⟨rfl, PostG.here h3 s3 (.loc (prefix_get e3.pre hat))⟩
  | _ => exact h3.elim
theorem fe_make (F : MkOk X.prog X.w X.K X.mg X.base k C x f) (hr : Room j X.A) (hg : Gl X x) (ha : FA X E (e :: es) t) (hkj : k + 1 ≤ j := by decide)
    (hdb : (x == ("__debug__" : Str)) = false := by decide) (he : starEach (e :: es) X.env = (false, eval e X.env) :: starEach es X.env := by rfl) (hpl : (backTo pos (starEach es X.env)).any (·.1) = false := by rfl) :
    FE X E (.Call (.Name x p) (e :: es) [] pos) (mMake C f t) := by
  obtain ⟨fa, fd, ps, h1, h2, h3, h4⟩ := F.ex
  exact pe_imp (pe_make (E := E) h2 h1 (hr.mono hkj) hg h4 h3 .nil pass0' ha hdb he hpl) fun σ H Q ⟨ρ, S, σd, s, r, h⟩ => ⟨ρ, S, σd, s, r, (PostG.bind (rel := Reps) h).mono fun vs H1 ⟨ρ1, S1, ds, e1, s1, q1, h1⟩ => make_of s1 q1 h1⟩
theorem fe_make0 (F : MkOk X.prog X.w X.K X.mg X.base k C x f) (hr : Room j X.A) (hg : Gl X x) (hkj : k + 1 ≤ j := by decide)
    (hdb : (x == ("__debug__" : Str)) = false := by decide) : FE X E (.Call (.Name x p) [] [] pos) (mMake C f aNil) := by
  obtain ⟨fa, fd, ps, h1, h2, h3, h4⟩ := F.ex
  exact pe_imp (pe_make0 (E := E) h2 h1 (hr.mono hkj) hg h4 h3 .nil pass0' hdb) fun σ H Q ⟨ρ, S, σd, s, r, h⟩ => make_of s .nil h
end
/-! ### the defs of classes -/
section
variable {P : Program} {w : World} {K : PySem.W.Frag} {mg : Str → Option Value} {base : Heap} {x qual : Str} {params : Arguments} {body : List Stmt} {scope : Scope} {fa : Addr} {fd : FuncData}
theorem okMet {N ps : List Str} {k C : Nat} {m : Ms} {mn : Str} (F : FunD K x qual params body scope [] [] fa fd) (c : Cls K (KMap.κ C)) (hm : Meth K (KMap.κ C) mn fa) (hf : mn ∉ KMap.fl C) (S : FnScope N ps scope)
    (hb : ∀ (kV doc pm : Value) (an : Option Addr) (cdv ct : Value) (us : List Value), us.length = ps.length → bindArgs (PySem.W.fnOf x qual params body scope .none kV doc pm an cdv ct) ⟨us, []⟩ = pure (ps.zip us))
    (hbody : ∀ (cdv : Value) (A : Around) (outer : List Env) (s : Shared) (H : Hp) (E : XK), Room k (A.deeper (envOfC qual scope s.heap.objs.size fa cdv)) →
      FSs (cxOf CX0 P w K mg base N qual scope fa cdv A outer s H E).nox E body m) (hN : ps.length ≤ N.length := by decide) : MetOk P w K mg base (k + 1) C mn (runB ps.length N.length m) :=
  ⟨fa, fd, ps, okFD F S hN hbody, c, hm, F.bindsN hb, hf⟩
theorem okMk {N ps : List Str} {k C : Nat} {m : Ms} {cn : Str} (F : FunD K x qual params body scope [] [] fa fd) (M : Mk K (KMap.κ C) fa) (g : mg cn = some (.ref (KMap.κ C))) (S : FnScope N ps scope)
    (hb : ∀ (kV doc pm : Value) (an : Option Addr) (cdv ct : Value) (us : List Value), us.length = ps.length → bindArgs (PySem.W.fnOf x qual params body scope .none kV doc pm an cdv ct) ⟨us, []⟩ = pure (ps.zip us))
    (hbody : ∀ (cdv : Value) (A : Around) (outer : List Env) (s : Shared) (H : Hp) (E : XK), Room k (A.deeper (envOfC qual scope s.heap.objs.size fa cdv)) →
      FSs (cxOf CX0 P w K mg base N qual scope fa cdv A outer s H E).nox E body m) (hN : ps.length ≤ N.length := by decide) : MkOk P w K mg base (k + 1) C cn (runB ps.length N.length m) :=
  ⟨fa, fd, ps, okFD F S hN hbody, M, F.bindsN hb, g⟩
end
end FL
set_option Elab.async false
set_option linter.all false
set_option maxRecDepth 100000
set_option maxHeartbeats 4000000
/-! FLg: list(range(..)), tuple(range(..)). -/
namespace FL
open PySem PySem.Spec PyProof.Rows L2
variable [KMap]
section
variable {X : Cx} {E : XK} {pos p p2 q2 : Pos} {a b : Expr} {ma mb : Me}
@[simp] def rgOkL (a b : Int) : Bool := rgOk a && rgOk b && decide ((b - a).toNat ≤ 2 ^ 24)
theorem rgOkL_ok {a b : Int} (h : rgOkL a b = true) : RgOk a b := by
  simp only [rgOkL, Bool.and_eq_true, decide_eq_true_eq] at h
  obtain ⟨⟨h1, h2⟩, h3⟩ := h
  have h1 := rgOk_iff.mp h1
  have h2 := rgOk_iff.mp h2
  exact ⟨h1.1, h1.2, h2.1, h2.2, h3⟩
theorem reps_rg {H : Hp} {ρ : List Addr} (a b : Int) : Reps H ρ (rgV a b) (rgD a (b - a).toNat) := by
  unfold rgV rgD
  generalize List.range (b - a).toNat = l
  induction l with
  | nil => exact .nil
  | cons i r ih => exact .cons (.int _) ih
@[simp] noncomputable def fLstRg2 : Fn2
  | .int i, .int j, S => if rgOkL i j = true then .ok (.loc S.length) (S ++ [.lst (rgD i (j - i).toNat)]) else .bad
  | _, _, _ => .bad
@[simp] noncomputable def fTupRg2 : Fn2
  | .int i, .int j, S => if rgOkL i j = true then .ok (.tup (rgD i (j - i).toNat)) S else .bad
  | _, _, _ => .bad
@[simp] noncomputable def fLstRg1 (x : D) (S : Sto) : R D := fLstRg2 (.int 0) x S
@[simp] noncomputable def fTupRg1 (x : D) (S : Sto) : R D := fTupRg2 (.int 0) x S
theorem lrg_core {H : Hp} {ρ : List Addr} {S : Sto} {x y : V} {dx dy : D} {Q : VK} (s : Sim ρ S H) (rx : Rep H ρ x dx) (ry : Rep H ρ y dy) (h : PostG Rep E ρ H Q (fLstRg2 dx dy S)) : ∃ i j, x = .int i ∧ y = .int j ∧ RgOk i j ∧ ∀ q, H q = none → Q (.ref q) (upd H q (.lst (rgV i j))) := by
  unfold fLstRg2 at h
  split at h
  · split at h
    · rename_i hk
      cases rx; cases ry
      exact ⟨_, _, rfl, rfl, rgOkL_ok hk, new_lst s (reps_rg _ _) h⟩
    · exact h.elim
  · exact h.elim
theorem trg_core {H : Hp} {ρ : List Addr} {S : Sto} {x y : V} {dx dy : D} {Q : VK} (s : Sim ρ S H) (rx : Rep H ρ x dx) (ry : Rep H ρ y dy) (h : PostG Rep E ρ H Q (fTupRg2 dx dy S)) : ∃ i j, x = .int i ∧ y = .int j ∧ RgOk i j ∧ ∀ q, H q = none → Q (.ref q) (upd H q (.tup (rgV i j))) := by
  unfold fTupRg2 at h
  split at h
  · split at h
    · rename_i hk
      cases rx; cases ry
      exact ⟨_, _, rfl, rfl, rgOkL_ok hk, new_tup s (reps_rg _ _) h⟩
    · exact h.elim
  · exact h.elim
theorem fe_listRg2 (hc : X.calm = true) (hg : Gl X "list") (hm : X.mg "list" = none) (hg2 : Gl X "range") (hm2 : X.mg "range" = none) (ha : FE X E a ma) (hb : FE X E b mb)
    (na2 : starEach [a, b] X.env = (false, eval a X.env) :: starEach [b] X.env := by rfl) (nb2 : starEach [b] X.env = (false, eval b X.env) :: starEach [] X.env := by rfl) (hp : (backTo p2 (starEach [b] X.env)).any (·.1) = false := by rfl)
    (na : starEach [.Call (.Name "range" q2) [a, b] [] p2] X.env = (false, eval (.Call (.Name "range" q2) [a, b] [] p2) X.env) :: starEach [] X.env := by rfl) : FE X E (.Call (.Name "list" p) [.Call (.Name "range" q2) [a, b] [] p2] [] pos) (mOp fLstRg2 ma mb) := by
  refine pe_imp (pe_listRg hc hg hm (prg_2 hg2 hm2 ha hb na2 nb2 hp) na) fun σ H Q ⟨ρ, S, σd, s, r, h⟩ => ⟨ρ, S, σd, s, r, (PostG.bind (rel := Rep) h).mono fun x H1 ⟨ρ1, S1, dx, e1, s1, q1, h1⟩ => ?_⟩
  refine ⟨ρ1, S1, σd, s1, r.ext s e1, (PostG.bind (rel := Rep) h1).mono fun y H2 ⟨ρ2, S2, dy, e2, s2, q2, h2⟩ => ?_⟩
  exact lrg_core s2 (q1.ext s1 e2) q2 h2
theorem fe_tupleRg2 (hc : X.calm = true) (hg : Gl X "tuple") (hm : X.mg "tuple" = none) (hg2 : Gl X "range") (hm2 : X.mg "range" = none) (ha : FE X E a ma) (hb : FE X E b mb)
    (na2 : starEach [a, b] X.env = (false, eval a X.env) :: starEach [b] X.env := by rfl) (nb2 : starEach [b] X.env = (false, eval b X.env) :: starEach [] X.env := by rfl) (hp : (backTo p2 (starEach [b] X.env)).any (·.1) = false := by rfl)
    (na : starEach [.Call (.Name "range" q2) [a, b] [] p2] X.env = (false, eval (.Call (.Name "range" q2) [a, b] [] p2) X.env) :: starEach [] X.env := by rfl) : FE X E (.Call (.Name "tuple" p) [.Call (.Name "range" q2) [a, b] [] p2] [] pos) (mOp fTupRg2 ma mb) := by
  refine pe_imp (pe_tupRg hc hg hm (prg_2 hg2 hm2 ha hb na2 nb2 hp) na) fun σ H Q ⟨ρ, S, σd, s, r, h⟩ => ⟨ρ, S, σd, s, r, (PostG.bind (rel := Rep) h).mono fun x H1 ⟨ρ1, S1, dx, e1, s1, q1, h1⟩ => ?_⟩
  refine ⟨ρ1, S1, σd, s1, r.ext s e1, (PostG.bind (rel := Rep) h1).mono fun y H2 ⟨ρ2, S2, dy, e2, s2, q2, h2⟩ => ?_⟩
  exact trg_core s2 (q1.ext s1 e2) q2 h2
theorem fe_listRg1 (hc : X.calm = true) (hg : Gl X "list") (hm : X.mg "list" = none) (hg2 : Gl X "range") (hm2 : X.mg "range" = none) (ha : FE X E a ma)
    (na2 : starEach [a] X.env = (false, eval a X.env) :: starEach [] X.env := by rfl)
    (na : starEach [.Call (.Name "range" q2) [a] [] p2] X.env = (false, eval (.Call (.Name "range" q2) [a] [] p2) X.env) :: starEach [] X.env := by rfl) : FE X E (.Call (.Name "list" p) [.Call (.Name "range" q2) [a] [] p2] [] pos) (mUn fLstRg1 ma) := by
  refine pe_imp (pe_listRg hc hg hm (prg_1 hg2 hm2 ha na2) na) fun σ H Q ⟨ρ, S, σd, s, r, h⟩ => ⟨ρ, S, σd, s, r, (PostG.bind (rel := Rep) h).mono fun x H1 ⟨ρ1, S1, dx, e1, s1, q1, h1⟩ => ?_⟩
  obtain ⟨i, j, hi, hj, h2, h3⟩ := lrg_core (x := .int 0) s1 (.int 0) q1 h1
  cases hi
  exact ⟨j, hj, h2, h3⟩
theorem fe_tupleRg1 (hc : X.calm = true) (hg : Gl X "tuple") (hm : X.mg "tuple" = none) (hg2 : Gl X "range") (hm2 : X.mg "range" = none) (ha : FE X E a ma)
    (na2 : starEach [a] X.env = (false, eval a X.env) :: starEach [] X.env := by rfl)
    (na : starEach [.Call (.Name "range" q2) [a] [] p2] X.env = (false, eval (.Call (.Name "range" q2) [a] [] p2) X.env) :: starEach [] X.env := by rfl) : FE X E (.Call (.Name "tuple" p) [.Call (.Name "range" q2) [a] [] p2] [] pos) (mUn fTupRg1 ma) := by
  refine pe_imp (pe_tupRg hc hg hm (prg_1 hg2 hm2 ha na2) na) fun σ H Q ⟨ρ, S, σd, s, r, h⟩ => ⟨ρ, S, σd, s, r, (PostG.bind (rel := Rep) h).mono fun x H1 ⟨ρ1, S1, dx, e1, s1, q1, h1⟩ => ?_⟩
  obtain ⟨i, j, hi, hj, h2, h3⟩ := trg_core (x := .int 0) s1 (.int 0) q1 h1
  cases hi
  exact ⟨j, hj, h2, h3⟩
end
end FL
set_option Elab.async false
set_option linter.all false
set_option maxRecDepth 100000
set_option maxHeartbeats 4000000
/-! FL8: how functional readings are reckoned. -/
namespace FL
open PySem PySem.Spec PyProof.Rows L2
variable [KMap]
/-! ### the big functions, by cases -/
section
variable {S : Sto} {n : Nat} {ds : List D} {kvs : List (Key × D)} {kts : List (List Key × D)} {i : Int} {x : Str} {k : List Key} {y : D}
@[simp] theorem sub_lst (h : S[n]? = some (.lst ds)) : fSub_ (.loc n) (.int i) S = okO S (atI ds i) := by simp only [fSub_, h]
@[simp] theorem sub_tup : fSub_ (.tup ds) (.int i) S = okO S (atI ds i) := rfl
@[simp] theorem sub_dKi (h : S[n]? = some (.dK kvs)) : fSub_ (.loc n) (.int i) S = okO S (valD kvs (.inl i)) := by simp only [fSub_, h]; rfl
@[simp] theorem sub_dKs (h : S[n]? = some (.dK kvs)) : fSub_ (.loc n) (.str x) S = okO S (valD kvs (.inr x)) := by simp only [fSub_, h]; rfl
@[simp] theorem sub_fKi (h : S[n]? = some (.fK kvs)) : fSub_ (.loc n) (.int i) S = okO S (valD kvs (.inl i)) := by simp only [fSub_, h]; rfl
@[simp] theorem sub_fKs (h : S[n]? = some (.fK kvs)) : fSub_ (.loc n) (.str x) S = okO S (valD kvs (.inr x)) := by simp only [fSub_, h]; rfl
theorem sub_dT (h : S[n]? = some (.dT kts)) (hk : keyT y = some k) : fSub_ (.loc n) y S = okO S (valD kts k) := by simp only [fSub_, h, lookD, hk, Option.map_some]
theorem sub_fT (h : S[n]? = some (.fT kts)) (hk : keyT y = some k) : fSub_ (.loc n) y S = okO S (valD kts k) := by simp only [fSub_, h, lookD, hk, Option.map_some]
@[simp] theorem get_lst (h : S[n]? = some (.lst ds)) : fGet_ (.loc n) (.int i) S = okO S (atI ds i) := by simp only [fGet_, h]
@[simp] theorem get_dKi (h : S[n]? = some (.dK kvs)) : fGet_ (.loc n) (.int i) S = okO S (valD kvs (.inl i)) := by simp only [fGet_, h]; rfl
@[simp] theorem get_dKs (h : S[n]? = some (.dK kvs)) : fGet_ (.loc n) (.str x) S = okO S (valD kvs (.inr x)) := by simp only [fGet_, h]; rfl
theorem get_dT (h : S[n]? = some (.dT kts)) (hk : keyT y = some k) : fGet_ (.loc n) y S = okO S (valD kts k) := by simp only [fGet_, h, lookD, hk, Option.map_some]
@[simp] theorem len_lst (h : S[n]? = some (.lst ds)) : fLen [.loc n] S = .ok (.int ds.length) S := by simp only [fLen, h]
@[simp] theorem len_dK (h : S[n]? = some (.dK kvs)) : fLen [.loc n] S = .ok (.int kvs.length) S := by simp only [fLen, h]
@[simp] theorem len_dT (h : S[n]? = some (.dT kts)) : fLen [.loc n] S = .ok (.int kts.length) S := by simp only [fLen, h]
@[simp] theorem len_tup : fLen [.tup ds] S = .ok (.int ds.length) S := rfl
theorem len_str (h : x.length ≤ sizeLine) : fLen [.str x] S = .ok (.int x.length) S := by simp only [fLen, h, if_true]
@[simp] theorem it_lst (h : S[n]? = some (.lst ds)) : fIt (.loc n) S = .ok (.at_ n (.lst ds) ds) S := by simp only [fIt, h]
@[simp] theorem it_tup : fIt (.tup ds) S = .ok (.its ds) S := rfl
@[simp] theorem it_str : fIt (.str x) S = .ok (.its (strD x)) S := rfl
@[simp] theorem it_fK (h : S[n]? = some (.fK kvs)) : fIt (.loc n) S = .ok (.at_ n (.fK kvs) (kvs.map fun p => keyD p.1)) S := by simp only [fIt, h]
@[simp] theorem it_fT (h : S[n]? = some (.fT kts)) : fIt (.loc n) S = .ok (.at_ n (.fT kts) (kts.map fun p => .tup (p.1.map keyD))) S := by simp only [fIt, h]
@[simp] theorem eqv_ints {neg : Bool} {i j : Int} : fEqv neg (.int i) (.int j) S = .ok (.bl (neg ^^ decide (i = j))) S := rfl
@[simp] theorem eqv_strs {neg : Bool} {i j : Str} : fEqv neg (.str i) (.str j) S = .ok (.bl (neg ^^ decide (i = j))) S := rfl
@[simp] theorem eqv_bls {neg : Bool} {i j : Bool} : fEqv neg (.bl i) (.bl j) S = .ok (.bl (neg ^^ decide (i = j))) S := rfl
theorem in_lst {neg : Bool} (h : S[n]? = some (.lst ds)) (hf : (flatD y && ds.all flatD) = true) : fInN neg y (.loc n) S = .ok (.bl (neg ^^ ds.any fun e => eqvD e y)) S := by
  cases y <;> simp only [fInN, h, hf, if_true]
theorem in_tup {neg : Bool} (hf : (flatD y && ds.all flatD) = true) : fInN neg y (.tup ds) S = .ok (.bl (neg ^^ ds.any fun e => eqvD e y)) S := by
  cases y <;> simp only [fInN, hf, if_true]
@[simp] theorem in_dKi {neg : Bool} (h : S[n]? = some (.dK kvs)) : fInN neg (.int i) (.loc n) S = .ok (.bl (neg ^^ (valD kvs (.inl i)).isSome)) S := by simp only [fInN, h]; rfl
@[simp] theorem in_dKs {neg : Bool} (h : S[n]? = some (.dK kvs)) : fInN neg (.str x) (.loc n) S = .ok (.bl (neg ^^ (valD kvs (.inr x)).isSome)) S := by simp only [fInN, h]; rfl
theorem in_dT {neg : Bool} (h : S[n]? = some (.dT kts)) (hk : keyT y = some k) : fInN neg y (.loc n) S = .ok (.bl (neg ^^ (valD kts k).isSome)) S := by
  cases y <;> simp only [fInN, h, lookD, hk, Option.map_some]
@[simp] theorem sl_lst {lo hi : Option Int} (h : S[n]? = some (.lst ds)) : fSl (.loc n) lo hi S = .ok (.loc S.length) (S ++ [.lst (cutD ds lo hi)]) := by simp only [fSl, h]
@[simp] theorem sl_tp {lo hi : Option Int} : fSl (.tup ds) lo hi S = .ok (.tup (cutD ds lo hi)) S := rfl
@[simp] theorem tupOf_lst (h : S[n]? = some (.lst ds)) : fTupOf [.loc n] S = .ok (.tup ds) S := by simp only [fTupOf, h]
@[simp] theorem tupOf_tup : fTupOf [.tup ds] S = .ok (.tup ds) S := rfl
@[simp] theorem lstOf_lst (h : S[n]? = some (.lst ds)) : fLstOf [.loc n] S = .ok (.loc S.length) (S ++ [.lst ds]) := by simp only [fLstOf, h]
@[simp] theorem lstOf_dK (h : S[n]? = some (.dK kvs)) : fLstOf [.loc n] S = .ok (.loc S.length) (S ++ [.lst (kvs.map fun p => keyD p.1)]) := by simp only [fLstOf, h]
@[simp] theorem add_ints {i j : Int} : fAdd (.int i) (.int j) S = .ok (.int (i + j)) S := rfl
theorem add_strs {a b : Str} (h : a.length + b.length ≤ sizeLine) : fAdd (.str a) (.str b) S = .ok (.str (a ++ b)) S := by simp only [fAdd, h, if_true]
theorem add_tups {a b : List D} (h : a.length + b.length ≤ sizeLine) : fAdd (.tup a) (.tup b) S = .ok (.tup (a ++ b)) S := by simp only [fAdd, h, if_true]
theorem add_lsts {a b : List D} {n m : Nat} (hn : S[n]? = some (.lst a)) (hm : S[m]? = some (.lst b)) (h : a.length + b.length ≤ sizeLine) : fAdd (.loc n) (.loc m) S = .ok (.loc S.length) (S ++ [.lst (a ++ b)]) := by simp only [fAdd, hn, hm, h, if_true]
@[simp] theorem lstOf_tup : fLstOf [.tup ds] S = .ok (.loc S.length) (S ++ [.lst ds]) := rfl
end
theorem trim_keep {S S' : Sto} {d : D} (hl : S'.length = S.length) (hd : d.und S.length = true) (hk : ∀ i < S.length, S'[i]? = S[i]? ∨ ∃ o, S'[i]? = some o ∧ o.und S.length = true) : trim S d S' = .ok d S' := by
  unfold trim
  rw [if_pos ⟨Nat.le_of_eq hl.symm, hk⟩, if_pos hd, ← hl, List.take_length]
/-- nothing of the store has changed, what was made is dropped -/
theorem trim_pre {S J : Sto} {d : D} (hd : d.und S.length = true) : trim S d (S ++ J) = .ok d S := by
  unfold trim
  rw [if_pos ⟨by rw [List.length_append]; omega, fun i hi => .inl (List.getElem?_append_left hi)⟩, if_pos hd, List.take_left']
  rfl
theorem trim_self {S : Sto} {d : D} (hd : d.und S.length = true) : trim S d S = .ok d S := by
  have := trim_pre (S := S) (J := []) hd
  rwa [List.append_nil] at this
/-- .. a new object is handed back -/
theorem trim_new {S J : Sto} {n : Nat} {o : O} (hn : ¬ n < S.length) (ho : (S ++ J)[n]? = some o) (hu : o.und S.length = true) : trim S (.loc n) (S ++ J) = .ok (.loc S.length) (S ++ [o]) := by
  unfold trim
  rw [if_pos ⟨by rw [List.length_append]; omega, fun i hi => .inl (List.getElem?_append_left hi)⟩, if_neg (by simpa [D.und] using hn)]
  simp only
  rw [ho]
  simp only
  rw [if_pos hu, List.take_left' rfl]
@[simp] theorem und_non (k) : D.und k .non = true := by simp only [D.und]
@[simp] theorem und_int (k i) : D.und k (.int i) = true := by simp only [D.und]
@[simp] theorem und_bl (k i) : D.und k (.bl i) = true := by simp only [D.und]
@[simp] theorem und_str (k i) : D.und k (.str i) = true := by simp only [D.und]
@[simp] theorem und_tup (k ds) : D.und k (.tup ds) = D.unds k ds := by simp only [D.und]
@[simp] theorem und_loc (k n) : D.und k (.loc n) = decide (n < k) := by simp only [D.und]
@[simp] theorem unds_nil (k) : D.unds k [] = true := by simp only [D.unds]
@[simp] theorem unds_cons (k d ds) : D.unds k (d :: ds) = (d.und k && D.unds k ds) := by simp only [D.unds]
theorem unds_all (k ds) : D.unds k ds = ds.all fun d => d.und k := by
  induction ds with
  | nil => rfl
  | cons d r ih => rw [unds_cons, List.all_cons, ih]
@[simp] theorem unds_ints (k) (ns : List Int) : D.unds k (ns.map D.int) = true := by rw [unds_all, List.all_eq_true]; intro d hd; obtain ⟨i, _, rfl⟩ := List.mem_map.mp hd; rfl
theorem forL_nil (src g b σ S) : forL src g b [] σ S = chk S src (.nx σ S) .bad := rfl
theorem forL_cons (src g b d ds σ S) : forL src g b (d :: ds) σ S = chk S src (match (g d σ S).fl b with
    | .nx σ2 S2 => forL src g b ds σ2 S2
    | .cont σ2 S2 => forL src g b ds σ2 S2
    | .brk σ2 S2 => .nx σ2 S2
    | r => r) .bad := by
  show chk S src ((g d σ S).fl _) .bad = _
  congr 1
  cases g d σ S <;> rfl
/-- a loop over a range, by what holds ahead of each turn -/
theorem for_rg {lo : Int} {n : Nat} {g : Mg} {b : Ms} (P : Nat → Sd → Sto → Prop) {σ S} (h0 : P 0 σ S)
    (hs : ∀ i σ S, i < n → P i σ S → ∃ σ' S', ((g (.int (lo + (i : Int))) σ S).fl b = .nx σ' S' ∨ (g (.int (lo + (i : Int))) σ S).fl b = .cont σ' S') ∧ P (i + 1) σ' S') :
    ∃ σ' S', forL (.its (rgD lo n)) g b (rgD lo n) σ S = .nx σ' S' ∧ P n σ' S' := by
  have key : ∀ (m i : Nat) σ S, i + m = n → P i σ S → ∃ σ' S', forL (.its (rgD lo n)) g b ((rgD lo n).drop i) σ S = .nx σ' S' ∧ P n σ' S' := by
    intro m
    induction m with
    | zero =>
      intro i σ S hi p
      rw [List.drop_of_length_le (by simp [rgD]; omega)]
      exact ⟨σ, S, rfl, by rw [← hi]; exact p⟩
    | succ m ih =>
      intro i σ S hi p
      have hl : i < (rgD lo n).length := by simp [rgD]; omega
      have he : (rgD lo n)[i] = .int (lo + (i : Int)) := by simp [rgD]
      rw [List.drop_eq_getElem_cons hl, forL_cons, chk_its, he]
      obtain ⟨σ', S', e, p'⟩ := hs i σ S (by omega) p
      rcases e with e | e <;> (rw [e]; exact ih (i + 1) σ' S' (by omega) p')
  have := key n 0 σ S (by omega) h0
  simpa using this
/-! ### the law's draws -/
def dst (ns : List Int) (p r s : Int) : Sto := [.lst (ns.map D.int), .lst [.loc 0, .int p, .int r, .int s]]
theorem beg_dst (ns : List Int) : begSto ns = dst ns 0 0 11 := rfl
theorem chk_ok {α : Type} {S : Sto} {src : Src} {r b : α} (h : okSrc S src) : chk S src r b = r := by
  cases src with
  | its ds => rfl
  | at_ n o ds => exact chk_lst h
/-- a loop, by what holds ahead of each turn -/
theorem for_src {src : Src} {g : Mg} {b : Ms} (P : Nat → Sd → Sto → Prop) {σ S} (h0 : P 0 σ S) (hok : ∀ i σ S, P i σ S → okSrc S src)
    (hs : ∀ i d σ S, src.items[i]? = some d → P i σ S → ∃ σ' S', ((g d σ S).fl b = .nx σ' S' ∨ (g d σ S).fl b = .cont σ' S') ∧ P (i + 1) σ' S') :
    ∃ σ' S', forL src g b src.items σ S = .nx σ' S' ∧ P src.items.length σ' S' := by
  have key : ∀ (m i : Nat) σ S, i + m = src.items.length → P i σ S → ∃ σ' S', forL src g b (src.items.drop i) σ S = .nx σ' S' ∧ P src.items.length σ' S' := by
    intro m
    induction m with
    | zero =>
      intro i σ S hi p
      rw [List.drop_of_length_le (by omega), forL_nil, chk_ok (hok i σ S p)]
      exact ⟨σ, S, rfl, by rw [← hi]; exact p⟩
    | succ m ih =>
      intro i σ S hi p
      have hl : i < src.items.length := by omega
      rw [List.drop_eq_getElem_cons hl, forL_cons, chk_ok (hok i σ S p)]
      obtain ⟨σ', S', e, p'⟩ := hs i _ σ S (List.getElem?_eq_getElem hl) p
      rcases e with e | e <;> (rw [e]; exact ih (i + 1) σ' S' (by omega) p')
  have := key _ 0 σ S (Nat.zero_add _) h0
  simpa using this
/-- .. over a range, by an integer -/
theorem for_rgZ {lo : Int} {n : Nat} {g : Mg} {b : Ms} (P : Int → Sd → Sto → Prop) {σ S} (h0 : P 0 σ S)
    (hs : ∀ (k : Int) σ S, 0 ≤ k → k < n → P k σ S → ∃ σ' S', ((g (.int (lo + k)) σ S).fl b = .nx σ' S' ∨ (g (.int (lo + k)) σ S).fl b = .cont σ' S') ∧ P (k + 1) σ' S') :
    ∃ σ' S', forL (.its (rgD lo n)) g b (rgD lo n) σ S = .nx σ' S' ∧ P n σ' S' :=
  for_rg (P := fun i => P (i : Int)) h0 fun i σ S hi p => hs i σ S (by omega) (by omega) p
/-- .. that ends by a return at turn k -/
theorem for_ret {src : Src} {g : Mg} {b : Ms} (P : Nat → Sd → Sto → Prop) {σ S} (k : Nat) (Q : D → Sto → Prop) (hk : k < src.items.length) (h0 : P 0 σ S) (hok : ∀ i σ S, P i σ S → okSrc S src)
    (hs : ∀ i d σ S, i < k → src.items[i]? = some d → P i σ S → ∃ σ' S', ((g d σ S).fl b = .nx σ' S' ∨ (g d σ S).fl b = .cont σ' S') ∧ P (i + 1) σ' S')
    (hr : ∀ d σ S, src.items[k]? = some d → P k σ S → ∃ v S', (g d σ S).fl b = .ret v S' ∧ Q v S') :
    ∃ v S', forL src g b src.items σ S = .ret v S' ∧ Q v S' := by
  have key : ∀ (m i : Nat) σ S, i + m = k → P i σ S → ∃ v S', forL src g b (src.items.drop i) σ S = .ret v S' ∧ Q v S' := by
    intro m
    induction m with
    | zero =>
      intro i σ S hi p
      obtain rfl : i = k := by omega
      rw [List.drop_eq_getElem_cons hk, forL_cons, chk_ok (hok i σ S p)]
      obtain ⟨v, S', e, q⟩ := hr _ σ S (List.getElem?_eq_getElem hk) p
      rw [e]
      exact ⟨v, S', rfl, q⟩
    | succ m ih =>
      intro i σ S hi p
      have hl : i < src.items.length := by omega
      rw [List.drop_eq_getElem_cons hl, forL_cons, chk_ok (hok i σ S p)]
      obtain ⟨σ', S', e, p'⟩ := hs i _ σ S (by omega) (List.getElem?_eq_getElem hl) p
      rcases e with e | e <;> (rw [e]; exact ih (i + 1) σ' S' (by omega) p')
  have := key k 0 σ S (Nat.zero_add _) h0
  simpa using this
/-- a comprehension whose parts change nothing -/
theorem compL_pure {src : Src} {g : Mg} {t : Mt} {e : Me} {vs : List Nat} {σ : Sd} {S : Sto} (p : D → Bool) (F : D → D) (hok : okSrc S src) : ∀ (ds acc : List D),
    (∀ d ∈ ds, ∃ σ1, g d (wipeD σ vs) S = .ok σ1 S ∧ t σ1 S = .ok (p d) S ∧ (p d = true → e σ1 S = .ok (F d) S)) → acc.length + ds.length ≤ sizeLine →
    compL src g t e vs σ ds acc S = .ok (.loc S.length) (S ++ [.lst (acc ++ (ds.filter p).map F)])
  | [], acc, _, _ => by
    unfold compL
    rw [chk_ok hok]
    simp
  | d :: ds, acc, h, hz => by
    obtain ⟨σ1, h1, h2, h3⟩ := h d (by simp)
    have hz' : acc.length + (ds.length + 1) ≤ sizeLine := hz
    unfold compL
    rw [chk_ok hok, h1]
    simp only [R.bind_ok]
    rw [h2]
    simp only [R.bind_ok]
    cases hp : p d with
    | false =>
      simp only [List.filter_cons, hp]
      exact compL_pure p F hok ds acc (fun x hx => h x (by simp [hx])) (by omega)
    | true =>
      simp only []
      rw [h3 hp]
      simp only [R.bind_ok]
      rw [if_pos (by omega), compL_pure p F hok ds (acc ++ [F d]) (fun x hx => h x (by simp [hx])) (by simp; omega)]
      simp [List.filter_cons, hp]
theorem compL_map {src : Src} {g : Mg} {e : Me} {vs : List Nat} {σ : Sd} {S : Sto} (F : D → D) (hok : okSrc S src) (ds : List D)
    (h : ∀ d ∈ ds, ∃ σ1, g d (wipeD σ vs) S = .ok σ1 S ∧ e σ1 S = .ok (F d) S) (hz : ds.length ≤ sizeLine) :
    compL src g mYes e vs σ ds [] S = .ok (.loc S.length) (S ++ [.lst (ds.map F)]) := by
  have := compL_pure (p := fun _ => true) F hok ds [] (t := mYes) (g := g) (e := e) (vs := vs) (σ := σ) (fun d hd => by
    obtain ⟨σ1, h1, h2⟩ := h d hd
    exact ⟨σ1, h1, rfl, fun _ => h2⟩) (by simpa using hz)
  have e : ds.filter (fun _ => true) = ds := List.filter_eq_self.mpr fun _ _ => rfl
  rw [e] at this
  simpa using this
theorem okSrc_its {S : Sto} {ds : List D} : okSrc S (.its ds) := trivial
/-- [x for x in ..] -/
theorem compL_id {ds : List D} {i : Nat} {σ : Sd} {S : Sto} (hi : i < σ.length) (hz : ds.length ≤ sizeLine) : compL (.its ds) (gN i) mYes (mVar i) [i] σ ds [] S = .ok (.loc S.length) (S ++ [.lst ds]) := by
  have := compL_map (src := .its ds) (g := gN i) (e := mVar i) (vs := [i]) (σ := σ) (S := S) id okSrc_its ds (fun d hd => ⟨_, rfl, by simp [wipeD, hi]⟩) hz
  rw [this, List.map_id]
@[simp] theorem rgD_len (lo n) : (rgD lo n).length = n := by simp [rgD]
/-! ### the draws' part of a store -/
@[simp] theorem dst_len (ns p r s) : (dst ns p r s).length = 2 := rfl
@[simp high] theorem dst_get {ns p r s J n} : (dst ns p r s ++ J)[2 + n]? = J[n]? := by
  rw [List.getElem?_append_right (by simp)]
  congr 1
  simp
theorem dst_get2 {ns p r s J n} : (dst ns p r s ++ J)[n + 2]? = J[n]? := by rw [Nat.add_comm]; exact dst_get
theorem trim_dst {ns p r s p' r' s' J d} (hd : d.und (2 + J.length) = true) : trim (dst ns p r s ++ J) d (dst ns p' r' s' ++ J) = .ok d (dst ns p' r' s' ++ J) := by
  refine trim_keep (by simp) (by simpa using hd) fun i hi => ?_
  match i with
  | 0 => exact .inl rfl
  | 1 => exact .inr ⟨_, rfl, by simp [O.und]; omega⟩
  | i + 2 => exact .inl rfl
/-- .. what was made behind it is dropped -/
theorem trim_dst2 {ns p r s p' r' s' J J' d} (hd : d.und (2 + J.length) = true) : trim (dst ns p r s ++ J) d (dst ns p' r' s' ++ (J ++ J')) = .ok d (dst ns p' r' s' ++ J) := by
  unfold trim
  rw [if_pos ?k, if_pos (by simpa using hd)]
  · rw [← List.append_assoc, List.take_left' (by simp)]
  · refine ⟨by simp, fun i hi => ?_⟩
    match i with
    | 0 => exact .inl rfl
    | 1 => exact .inr ⟨_, rfl, by simp [O.und]; omega⟩
    | i + 2 =>
      refine .inl ?_
      rw [dst_get2, dst_get2, List.getElem?_append_left (by simp at hi; omega)]
theorem kit_ii : kitB "int" "int" = some true := by decide +kernel
theorem kit_ib : kitB "int" "bool" = some false := by decide +kernel
end FL
set_option Elab.async false
set_option linter.all false
set_option maxRecDepth 100000
set_option maxHeartbeats 4000000
/-! FL9: == of data, tables, rows of ints. -/
namespace FL
open PySem PySem.Spec PyProof.Rows L2
variable [KMap]
/-! ### data without bools, types, objects: == is identity -/
mutual
def D.nb : D → Bool
  | .non => true | .int _ => true | .str x => PyData.canLay0 (.str x) | .tup ds => D.nbs ds | _ => false
def D.nbs : List D → Bool
  | [] => true
  | d :: ds => d.nb && D.nbs ds
end
mutual
def D.dep : D → Nat
  | .tup ds => D.deps ds + 1 | _ => 0
def D.deps : List D → Nat
  | [] => 0
  | d :: ds => max d.dep (D.deps ds)
end
mutual
def D.toPy : D → PyData
  | .int i => .int i | .str x => .str x | .tup ds => .tuple (D.toPys ds) | _ => .none
def D.toPys : List D → List PyData
  | [] => []
  | d :: ds => d.toPy :: D.toPys ds
end
mutual
theorem D.py_nb : ∀ d : D, d.nb = true → d.py = some d.toPy
  | .non, _ => rfl
  | .int _, _ => rfl
  | .str _, _ => rfl
  | .tup ds, h => by simp only [D.py, D.toPy, D.pys_nb ds (by simpa only [D.nb] using h), Option.map_some]
  | .bl _, h => by simp only [D.nb] at h; cases h
  | .ty _, h => by simp only [D.nb] at h; cases h
  | .loc _, h => by simp only [D.nb] at h; cases h
theorem D.pys_nb : ∀ ds : List D, D.nbs ds = true → D.pys ds = some (D.toPys ds)
  | [], _ => rfl
  | d :: ds, h => by
    simp only [D.nbs, Bool.and_eq_true] at h
    simp only [D.pys, D.py_nb d h.1, D.pys_nb ds h.2, D.toPys, Option.bind_some, Option.map_some]
end
mutual
theorem D.lay_nb : ∀ d : D, d.nb = true → d.toPy.canLay0 = true
  | .non, _ => rfl
  | .int _, _ => rfl
  | .str x, h => by simpa only [D.nb, D.toPy] using h
  | .bl _, _ => rfl
  | .ty _, _ => rfl
  | .loc _, _ => rfl
  | .tup ds, h => by simp only [D.toPy, PyData.canLay0]; exact D.lays_nb ds (by simpa only [D.nb] using h)
theorem D.lays_nb : ∀ ds : List D, D.nbs ds = true → PyData.canLayAll0 (D.toPys ds) = true
  | [], _ => rfl
  | d :: ds, h => by
    simp only [D.nbs, Bool.and_eq_true] at h
    simp only [D.toPys, PyData.canLayAll0, D.lay_nb d h.1, D.lays_nb ds h.2, Bool.and_self]
end
mutual
theorem D.dep_nb : ∀ d : D, d.toPy.depth = d.dep
  | .non => rfl
  | .int _ => rfl
  | .str _ => rfl
  | .bl _ => rfl
  | .ty _ => rfl
  | .loc _ => rfl
  | .tup ds => by simp only [D.toPy, PyData.depth, D.dep, D.deps_nb ds]
theorem D.deps_nb : ∀ ds : List D, PyData.depthAll (D.toPys ds) = D.deps ds
  | [] => rfl
  | d :: ds => by simp only [D.toPys, PyData.depthAll, D.deps, D.dep_nb d, D.deps_nb ds]
end
mutual
theorem D.eqv_nb : ∀ a b : D, a.nb = true → b.nb = true → (PyData.eqv a.toPy b.toPy = true ↔ a = b)
  | a, b, ha, hb => by
    cases a <;> cases b <;> simp only [D.nb] at ha hb <;> first | (cases ha; done) | (cases hb; done) | skip
    all_goals simp [D.toPy, PyData.eqv]
    exact D.eqvs_nb _ _ ha hb
theorem D.eqvs_nb : ∀ a b : List D, D.nbs a = true → D.nbs b = true → (PyData.eqvAll (D.toPys a) (D.toPys b) = true ↔ a = b)
  | [], [], _, _ => by simp [D.toPys, PyData.eqvAll]
  | [], _ :: _, _, _ => by simp [D.toPys, PyData.eqvAll]
  | _ :: _, [], _, _ => by simp [D.toPys, PyData.eqvAll]
  | x :: xs, y :: ys, ha, hb => by
    simp only [D.nbs, Bool.and_eq_true] at ha hb
    simp only [D.toPys, PyData.eqvAll, Bool.and_eq_true, D.eqv_nb x y ha.1 hb.1, D.eqvs_nb xs ys ha.2 hb.2, List.cons.injEq]
end
open Classical in
theorem eqv_data {S : Sto} {a b : D} (ha : a.nb = true) (hb : b.nb = true) (da : a.dep ≤ 64) (db : b.dep ≤ 64) : D.eqv S a b = some (decide (a = b)) := by
  have pa : a.pyS S = some a.toPy := by cases a <;> first | exact D.py_nb _ ha | (simp only [D.nb] at ha; cases ha)
  have pb : b.pyS S = some b.toPy := by cases b <;> first | exact D.py_nb _ hb | (simp only [D.nb] at hb; cases hb)
  have sa : SeqAt.shaped a.toPy = true := by unfold SeqAt.shaped; rw [D.lay_nb a ha, D.dep_nb, Bool.true_and]; exact decide_eq_true da
  have sb : SeqAt.shaped b.toPy = true := by unfold SeqAt.shaped; rw [D.lay_nb b hb, D.dep_nb, Bool.true_and]; exact decide_eq_true db
  simp only [D.eqv, pa, pb, Option.bind_some, sa, sb, Bool.and_self, if_true]
  congr 1
  rw [Bool.eq_iff_iff, D.eqv_nb a b ha hb, decide_eq_true_iff]
theorem nbs_all (ds : List D) : D.nbs ds = ds.all D.nb := by
  induction ds with
  | nil => rfl
  | cons d r ih => rw [D.nbs, List.all_cons, ih]
theorem deps_le {k : Nat} : ∀ {ds : List D}, (∀ d ∈ ds, d.dep ≤ k) → D.deps ds ≤ k
  | [], _ => Nat.zero_le _
  | d :: r, h => by rw [D.deps]; exact Nat.max_le.mpr ⟨h d (by simp), deps_le fun x hx => h x (by simp [hx])⟩
/-! ### rows of ints -/
/-- a length as an int that nothing evaluates -/
noncomputable def len {α : Type} (r : List α) : Int := Classical.choose (⟨r.length, rfl⟩ : ∃ x : Int, x = r.length)
theorem len_eq {α : Type} (r : List α) : len r = r.length := Classical.choose_spec (⟨r.length, rfl⟩ : ∃ x : Int, x = r.length)
theorem len_nat {α : Type} (r : List α) : (len r).toNat = r.length := by rw [len_eq]; omega
theorem len_pos {α : Type} (r : List α) : 0 ≤ len r := by rw [len_eq]; omega
def at_ (r : List Int) (i : Int) : Int := r.getD i.toNat 0
theorem atI_get {α : Type} {ds : List α} {i : Int} (h0 : 0 ≤ i) (h1 : i < len ds) : atI ds i = ds[i.toNat]? := by
  rw [len_eq] at h1
  simp only [atI, ixN]
  rw [if_pos h0, if_pos (by omega)]
  rfl
theorem at_map {r : List Int} {i : Int} (h0 : 0 ≤ i) (h1 : i < len r) : atI (r.map D.int) i = some (.int (at_ r i)) := by
  rw [atI_get h0 (by simpa [len_eq] using h1), List.getElem?_map]
  have : i.toNat < r.length := by rw [len_eq] at h1; omega
  simp [at_, List.getElem?_eq_getElem this]
/-- a row of ints as a tuple; rows of rows -/
def rowD (r : List Int) : D := .tup (r.map .int)
def rowsD (rs : List (List Int)) : D := .tup (rs.map rowD)
@[simp] theorem und_row (k r) : D.und k (rowD r) = true := by simp [rowD]
@[simp] theorem und_rows (k rs) : D.und k (rowsD rs) = true := by
  unfold rowsD
  rw [und_tup, unds_all, List.all_eq_true]
  intro d hd
  obtain ⟨r, _, rfl⟩ := List.mem_map.mp hd
  simp
theorem rowD_inj {a b : List Int} : rowD a = rowD b ↔ a = b := by
  unfold rowD
  constructor
  · intro h
    injection h with h
    have := congrArg intsD h
    rw [intsD_map, intsD_map] at this
    exact Option.some.inj this
  · rintro rfl; rfl
theorem nb_row (r : List Int) : (rowD r).nb = true := by
  unfold rowD
  rw [D.nb, nbs_all, List.all_eq_true]
  intro d hd
  obtain ⟨i, _, rfl⟩ := List.mem_map.mp hd
  rfl
theorem dep_row (r : List Int) : (rowD r).dep ≤ 64 := by
  unfold rowD
  rw [D.dep]
  have := deps_le (k := 0) (ds := r.map D.int) fun d hd => by
    obtain ⟨i, _, rfl⟩ := List.mem_map.mp hd
    exact Nat.le_refl _
  omega
open Classical in
theorem eqv_row (neg : Bool) (a b : List Int) (S : Sto) : fEqv neg (rowD a) (rowD b) S = .ok (.bl (neg ^^ decide (a = b))) S := by
  have e := eqv_data (S := S) (nb_row a) (nb_row b) (dep_row a) (dep_row b)
  unfold rowD at e ⊢
  simp only [fEqv, e]
  congr 3
  rw [Bool.eq_iff_iff, decide_eq_true_iff, decide_eq_true_iff]
  exact rowD_inj (a := a) (b := b)
@[simp] theorem len_row (r : List Int) (S : Sto) : fLen [rowD r] S = .ok (.int (len r)) S := by simp [rowD, len_eq]
theorem sub_row {r : List Int} {i : Int} (h0 : 0 ≤ i) (h1 : i < len r) (S : Sto) : fSub_ (rowD r) (.int i) S = .ok (.int (at_ r i)) S := by
  simp [rowD, at_map h0 h1]
@[simp] theorem it_row (r : List Int) (S : Sto) : fIt (rowD r) S = .ok (.its (r.map .int)) S := rfl
@[simp] theorem it_rows (rs : List (List Int)) (S : Sto) : fIt (rowsD rs) S = .ok (.its (rs.map rowD)) S := rfl
theorem sl_row {r : List Int} {lo hi : Option Int} (S : Sto) : fSl (rowD r) lo hi S = .ok (rowD (cutD r lo hi)) S := by
  unfold rowD
  rw [sl_tp]
  unfold cutD
  rw [List.length_map, List.map_take, List.map_drop]
theorem cut_to {α : Type} {r : List α} {i : Int} (h0 : 0 ≤ i) (h1 : i ≤ r.length) : cutD r none (some i) = r.take i.toNat := by
  unfold cutD
  have h2 : HT.sIx r.length r.length (some i) = i.toNat := by
    unfold HT.sIx; simp only; rw [if_neg (by omega)]; omega
  rw [h2]; rfl
theorem cut_from {α : Type} {r : List α} {i : Int} (h0 : 0 ≤ i) (h1 : i ≤ r.length) : cutD r (some i) none = r.drop i.toNat := by
  unfold cutD
  have h2 : HT.sIx r.length 0 (some i) = i.toNat := by
    unfold HT.sIx; simp only; rw [if_neg (by omega)]; omega
  have h3 : HT.sIx r.length r.length none = r.length := rfl
  rw [h2, h3, List.take_of_length_le (by rw [List.length_drop]; omega)]
theorem add_row {a b : List Int} (h : a.length + b.length ≤ 1000) (S : Sto) : fAdd (rowD a) (rowD b) S = .ok (rowD (a ++ b)) S := by
  unfold rowD
  rw [add_tups (by rw [List.length_map, List.length_map, sizeLine_eq]; omega), List.map_append]
/-! ### tables -/
theorem put_len {κ : Type} [DecidableEq κ] (kvs : List (κ × D)) (k : κ) (v : D) : (putD kvs k v).length ≤ kvs.length + 1 := by
  unfold putD
  split <;> simp
theorem val_put {κ : Type} [DecidableEq κ] (kvs : List (κ × D)) (k k' : κ) (v : D) : valD (putD kvs k v) k' = if k = k' then some v else valD kvs k' := by
  unfold putD valD
  split
  · rename_i h
    have key : ∀ l : List (κ × D), (l.map fun kv => if kv.1 = k then (kv.1, v) else kv).find? (fun kv => decide (kv.1 = k')) = (l.find? fun kv => decide (kv.1 = k')).map fun kv => if kv.1 = k then (kv.1, v) else kv := by
      intro l
      induction l with
      | nil => rfl
      | cons e r ih =>
        have he : (if e.1 = k then (e.1, v) else e).1 = e.1 := by split <;> rfl
        rw [List.map_cons, List.find?_cons, List.find?_cons, he]
        cases decide (e.1 = k') with
        | true => rfl
        | false => exact ih
    rw [key]
    by_cases hk : k = k'
    · subst hk
      rw [if_pos rfl]
      obtain ⟨e0, he0, hd0⟩ := List.any_eq_true.mp h
      have hs : (kvs.find? fun e => decide (e.1 = k)).isSome = true := by rw [List.find?_isSome]; exact ⟨e0, he0, hd0⟩
      obtain ⟨e, he⟩ := Option.isSome_iff_exists.mp hs
      have h1 : e.1 = k := by have := List.find?_some he; simpa using this
      rw [he]
      simp [h1]
    · rw [if_neg hk]
      cases he : kvs.find? fun e => decide (e.1 = k') with
      | none => rfl
      | some e =>
        have h1 : e.1 = k' := by have := List.find?_some he; simpa using this
        have h2 : ¬ e.1 = k := fun z => hk (by rw [← z, h1])
        simp [h2]
  · rename_i h
    rw [List.find?_append]
    by_cases hk : k = k'
    · subst hk
      rw [if_pos rfl]
      have hn : kvs.find? (fun e => decide (e.1 = k)) = none := by
        rw [List.find?_eq_none]
        intro e he hd
        exact h (List.any_eq_true.mpr ⟨e, he, hd⟩)
      rw [hn]
      simp
    · rw [if_neg hk]
      cases he : kvs.find? fun e => decide (e.1 = k') with
      | none => simp [hk]
      | some e => simp
/-- the last object has changed -/
theorem trim_last {S : Sto} {o o' : O} {d : D} (hd : d.und (S.length + 1) = true) (ho : o'.und (S.length + 1) = true) : trim (S ++ [o]) d (S ++ [o']) = .ok d (S ++ [o']) := by
  refine trim_keep (by simp) (by simpa using hd) fun i hi => ?_
  by_cases h : i < S.length
  · rw [List.getElem?_append_left h, List.getElem?_append_left h]; exact .inl rfl
  · have : i = S.length := by simp at hi; omega
    subst this
    exact .inr ⟨o', by simp, by simpa using ho⟩
/-! ### the store's last object -/
theorem get_last {S : Sto} {o : O} : (S ++ [o])[S.length]? = some o := by simp
theorem set_last {S : Sto} {o o' : O} : (S ++ [o]).set S.length o' = S ++ [o'] := by simp
/-- a step into a loop's body (by no unfolding: the kernel would unfold the body) -/
theorem gN_fl (i : Nat) (d : D) (σ : Sd) (S : Sto) (b : Ms) : (gN i d σ S).fl b = b (σ.set i (some d)) S := by
  have h : gN i d σ S = .ok (σ.set i (some d)) S := rfl
  rw [h, R.fl_ok]
theorem nx_of {i : Nat} {d : D} {σ : Sd} {S : Sto} {b : Ms} {r : Fl} (h : b (σ.set i (some d)) S = r) : (gN i d σ S).fl b = r := (gN_fl i d σ S b).trans h
/-- a comprehension over a range, by what holds ahead of each turn -/
theorem comp_rg {lo : Int} {n : Nat} {g : Mg} {e : Me} {vs : List Nat} {σ : Sd} {S : Sto} (P : Nat → List D → Sto → Prop) (h0 : P 0 [] S) (hz : n ≤ sizeLine)
    (hs : ∀ i acc S, i < n → P i acc S → ∃ σ1 y S', g (.int (lo + (i : Int))) (wipeD σ vs) S = .ok σ1 S ∧ e σ1 S = .ok y S' ∧ P (i + 1) (acc ++ [y]) S') :
    ∃ acc S', compL (.its (rgD lo n)) g mYes e vs σ (rgD lo n) [] S = .ok (.loc S'.length) (S' ++ [.lst acc]) ∧ acc.length = n ∧ P n acc S' := by
  have key : ∀ (m i : Nat) acc S, i + m = n → acc.length = i → P i acc S → ∃ acc' S', compL (.its (rgD lo n)) g mYes e vs σ ((rgD lo n).drop i) acc S = .ok (.loc S'.length) (S' ++ [.lst acc']) ∧ acc'.length = n ∧ P n acc' S' := by
    intro m
    induction m with
    | zero =>
      intro i acc S hi ha p
      rw [List.drop_of_length_le (by simp [rgD]; omega)]
      unfold compL
      rw [chk_its]
      exact ⟨acc, S, rfl, by omega, by rw [← hi]; exact p⟩
    | succ m ih =>
      intro i acc S hi ha p
      have hl : i < (rgD lo n).length := by simp [rgD]; omega
      have he : (rgD lo n)[i] = .int (lo + (i : Int)) := by simp [rgD]
      rw [List.drop_eq_getElem_cons hl, he]
      obtain ⟨σ1, y, S', h1, h2, p'⟩ := hs i acc S (by omega) p
      obtain ⟨acc', S'', h3, h4⟩ := ih (i + 1) (acc ++ [y]) S' (by omega) (by simp [ha]) p'
      refine ⟨acc', S'', ?_, h4⟩
      unfold compL
      rw [chk_its, h1]
      simp only [R.bind_ok, mYes, h2]
      rw [if_pos (by omega)]
      exact h3
  have := key n 0 [] S (by omega) rfl h0
  simpa using this
/-- a loop over the images of a list -/
theorem for_map {α : Type} {xs : List α} {f : α → D} {g : Mg} {b : Ms} (P : Nat → Sd → Sto → Prop) {σ S} (h0 : P 0 σ S)
    (hs : ∀ i x σ S, xs[i]? = some x → P i σ S → ∃ σ' S', ((g (f x) σ S).fl b = .nx σ' S' ∨ (g (f x) σ S).fl b = .cont σ' S') ∧ P (i + 1) σ' S') :
    ∃ σ' S', forL (.its (xs.map f)) g b (xs.map f) σ S = .nx σ' S' ∧ P xs.length σ' S' := by
  have := for_src (src := .its (xs.map f)) (g := g) (b := b) P h0 (fun _ _ _ _ => trivial) fun i d σ S hd p => by
    have hd : (xs.map f)[i]? = some d := hd
    rw [List.getElem?_map, Option.map_eq_some_iff] at hd
    obtain ⟨x, hx, rfl⟩ := hd
    exact hs i x σ S hx p
  simpa using this
/-- a loop over the ticks of a row -/
theorem for_row {r : List Int} {g : Mg} {b : Ms} (P : Nat → Sd → Sto → Prop) {σ S} (h0 : P 0 σ S)
    (hs : ∀ (i : Nat) (k : Int) σ S, k = i → 0 ≤ k → k < len r → P i σ S → ∃ σ' S', ((g (.int (0 + k)) σ S).fl b = .nx σ' S' ∨ (g (.int (0 + k)) σ S).fl b = .cont σ' S') ∧ P (i + 1) σ' S') :
    ∃ σ' S', forL (.its (rgD 0 (len r).toNat)) g b (rgD 0 (len r).toNat) σ S = .nx σ' S' ∧ P r.length σ' S' := by
  have := for_rg (lo := 0) (n := (len r).toNat) (g := g) (b := b) P h0 fun i σ S hi p => hs i i σ S rfl (by omega) (by omega) p
  have e : (len r).toNat = r.length := by rw [len_eq]; omega
  obtain ⟨σ', S', h, p⟩ := this
  rw [e] at p
  exact ⟨σ', S', h, p⟩
end FL
set_option Elab.async false
set_option linter.all false
set_option maxRecDepth 100000
set_option maxHeartbeats 4000000
/-! FLh: min of a list of data. -/
namespace FL
open PySem PySem.Spec PyProof.Rows L2 PySem.W
variable [KMap]
section
variable {X : Cx} {E : XK}
def rMinD (K : PySem.W.Frag) : List V → Hp → VK → Prop := fun vs H Q => ∃ a xs d ds, vs = [V.ref a] ∧ SqL K H a xs ∧ DpAll K H xs (d :: ds) ∧ AlikeAll (d :: ds) ∧ PyData.depthAll (d :: ds) ≤ 60 ∧ ∀ (i : Nat) (v : V), xs[i]? = some v → (d :: ds)[i]? = some (minD d ds) → Q v H
theorem foldl_mem {α : Type} (f : α → α → Bool) : ∀ (ds : List α) (d : α), ds.foldl (fun a y => if f y a = true then y else a) d ∈ d :: ds
  | [], d => by simp
  | e :: r, d => by
    rw [List.foldl_cons]
    have ih := foldl_mem f r (if f e d = true then e else d)
    rcases List.mem_cons.mp ih with h | h
    · rw [h]; split <;> simp
    · simp [h]
theorem vals_get {xs : List V} {us : List Value} (h : Vals xs us) : ∀ {i : Nat} {u : Value}, us[i]? = some u → ∃ x, xs[i]? = some x ∧ RelV x u := by
  induction h with
  | nil => intro i u e; simp at e
  | @cons x v l1 l2 r t ih =>
    intro i u e
    cases i with
    | zero =>
      have e : v = u := by simpa using e
      exact ⟨_, rfl, e ▸ r⟩
    | succ i => obtain ⟨x, h1, h2⟩ := ih (i := i) (by simpa using e); exact ⟨x, by simpa using h1, h2⟩
theorem cr_minD (hc : X.calm = true) (hu : X.A.units + 64 < cLine) : CallR X (.builtin "min") (rMinD X.K) := by
  intro pins s σ H vs us Q I r h
  obtain ⟨a, xs, d, ds, rfl, hs, hd, hal, hdep, q⟩ := h
  obtain ⟨its, rv, hl, _⟩ := I.list hs
  rw [Vals.ref1 r]
  obtain ⟨as, hr⟩ := Dp.readsAll I (d :: ds) _ its hd rv
  refine min_list_data (vs := its.toArray) (x := d) (xs := ds) (as := as) (I.ok.hd hc) hl.isList (by simpa using hr) hal (by omega) fun i v h' tk bs hv rd hk => ?_
  have hv : its[i]? = some v := by simpa using hv
  obtain ⟨x, hx, rx⟩ := vals_get rv hv
  obtain ⟨bs', r', hi, hm, _⟩ := readsAll_at hr i v hv
  have hmin : minD d ds ∈ d :: ds := foldl_mem _ ds d
  have heq : (d :: ds).getD i .none = minD d ds := PySem.W.alike_unique _ _ v _ _ (hal.1 _ hm _ hmin) (reads_keeps hk r') rd
  refine ⟨x, H, I.kept hk, rx, q i x hx ?_⟩
  rw [List.getElem?_eq_getElem hi]
  rw [List.getD_eq_getElem?_getD, List.getElem?_eq_getElem hi] at heq
  exact congrArg some heq
/-! ### .. over data of the store -/
def D.lt (x y : D) : Bool := PySem.W.dataLt x.toPy y.toPy
def minT (d : D) (ds : List D) : D := ds.foldl (fun a y => if D.lt y a = true then y else a) d
def minOk (ds : List D) : Prop := D.nbs ds = true ∧ AlikeAll (D.toPys ds) ∧ D.deps ds ≤ 60
open Classical in
noncomputable def fMinT : FnL
  | [.loc n], S => match S[n]? with
    | some (.lst (d :: ds)) => if minOk (d :: ds) then .ok (minT d ds) S else .bad
    | _ => .bad
  | _, _ => .bad
theorem toPys_map : ∀ ds : List D, D.toPys ds = ds.map D.toPy
  | [] => rfl
  | d :: ds => by rw [D.toPys, toPys_map ds]; rfl
theorem minT_py : ∀ (ds : List D) (d : D), (minT d ds).toPy = minD d.toPy (D.toPys ds) := by
  intro ds
  unfold minT minD
  induction ds with
  | nil => intro d; rfl
  | cons e r ih =>
    intro d
    rw [D.toPys, List.foldl_cons, List.foldl_cons, ih]
    congr 1
    unfold D.lt
    split <;> rfl
theorem call_MinT (hc : X.calm = true) (hu : X.A.units + 64 < cLine) : CallF X E (.builtin "min") fMinT := by
  refine ⟨_, cr_minD hc hu, fun ρ S H xs es Q s q h => ?_⟩
  unfold fMinT at h
  split at h
  · split at h
    · rename_i n d ds hS
      split at h
      · rename_i hk
        obtain ⟨hnb, hal, hdep⟩ := hk
        obtain ⟨v, rfl, r⟩ := reps1 q
        cases r with
        | loc ea =>
          obtain ⟨ys, hx, qy⟩ := s.lst ea hS
          refine ⟨_, ys, d.toPy, D.toPys ds, rfl, .of hx, ?_, hal, ?_, fun i w hw he => ?_⟩
          · exact Reps.dp qy (D.pys_nb _ hnb)
          · rw [← show D.toPys (d :: ds) = d.toPy :: D.toPys ds from rfl, D.deps_nb]; exact hdep
          · have hlen : i < (d :: ds).length := by rw [← qy.length]; exact lt_of_some hw
            obtain ⟨w', hw', rw'⟩ := qy.get (List.getElem?_eq_getElem hlen)
            rw [hw] at hw'; cases hw'
            have hmem : minT d ds ∈ d :: ds := foldl_mem _ ds d
            have hnb' := nbs_all (d :: ds) ▸ hnb
            have hn1 := List.all_eq_true.mp hnb' _ (List.getElem_mem hlen)
            have hn2 := List.all_eq_true.mp hnb' _ hmem
            have e1 : (d :: ds)[i].toPy = (minT d ds).toPy := by
              rw [minT_py]
              have : (D.toPys (d :: ds))[i]? = some (d :: ds)[i].toPy := by rw [toPys_map, List.getElem?_map, List.getElem?_eq_getElem hlen]; rfl
              rw [show D.toPys (d :: ds) = d.toPy :: D.toPys ds from rfl, he] at this
              exact (Option.some.inj this).symm
            have e2 : (d :: ds)[i] = minT d ds := by
              refine (D.eqv_nb _ _ hn1 hn2).mp ?_
              rw [e1]
              exact (D.eqv_nb _ _ hn2 hn2).mpr rfl
            rw [e2] at rw'
            exact PostG.here h s rw'
      · exact h.elim
    · exact h.elim
  · exact h.elim
end
end FL
set_option Elab.async false
set_option linter.all false
set_option maxRecDepth 100000
set_option maxHeartbeats 4000000
/-! FLi: sorted(d), d a dict whose keys are pairs of ints. -/
namespace FL
open PySem PySem.Spec PyProof.Rows L2 PySem.W
/-! ### the keys of a dict as they stand, walked -/
section
variable {prog : Program} {w : World} {A : Around} {E : Value → Shared → Prop} {s : Shared} {d : Addr} {o : Obj} {es : Array DictEntry} {ep : Nat}
theorem walks_raw (hh : A.handled = none) (I d : Addr) (hne : d ≠ I) (hdt : o.data = .dict es ep) :
    Walks prog w A I [I, d] [I] es.size (fun i v => ∃ en, es[i]? = some en ∧ v = en.key) (fun i h => h.IsKeyIter I d i es.size ep ∧ h.get? d = some o) where
  sub := fun b hb => by simp at hb; simp [hb]
  frame := fun _ _ _ st hk => ⟨st.1.at fun o e => hk I (by simp) o e, hk d (by simp) _ st.2⟩
  item := fun i s Q E hi st hQ => by
    refine next_key_item st.1 st.2 hdt rfl (Array.getElem?_eq_getElem hi) fun h' hit' hs' => ?_
    exact hQ _ h' s.toks ⟨_, Array.getElem?_eq_getElem hi, rfl⟩ ⟨hit', (hs'.2 d hne).trans st.2⟩ fun b o hb e => (hs'.2 b (fun h => hb (by simp [h]))).trans e
  done := fun s Q E st hQ => next_key_end hh st.1 st.2 hdt rfl (Nat.le_refl _) fun h' he' => hQ h' s.toks fun b o hb e => he' b o (fun h => hb (by simp [h])) e
  self := fun i s Q E st h => by
    have st := st.1
    refine wpAny_pyIter_slot st.typeIs F.slot_dict_keyiterator_iter (wpAny_call_entry F.slot_dict_keyiterator_iter st.typeIs F.entry_dict_keyiterator_iter ?_ (F.args_dict_keyiterator_iter_1 _))
    show wpAny _ _ (ret (.ref I)) _ _ s
    exact wpAny_pure ⟨_, rfl, "dict_keyiterator", _, st.typeIs, F.slot_dict_keyiterator_next.lookup, h⟩
theorem src_raw (lo : (d == sysModules) = false) (hx : o.ExactDict) (hdt : o.data = .dict es ep) : KdlSrc prog w "dict" d d es.size (fun i v => ∃ en, es[i]? = some en ∧ v = en.key) (fun h => h.get? d = some o) where
  type := fun _ hm => ⟨o, hm, hx.1⟩
  there := fun _ hm => ⟨Heap.lt_size hm, Heap.lt_size hm⟩
  keep := fun _ _ hm hk => hk d (.inl rfl) _ hm
  notList := by decide
  notTuple := by decide
  hint := fun _ _ _ _ hm hq => kdl_hint_dict ⟨o, hm, hx.1⟩ hq
  iter := fun _ s hh hm => ⟨_, _, (fun _ _ hq => iter_keys lo hm hx hdt hq), walks_raw hh _ d (Nat.ne_of_lt (Heap.lt_size hm)) hdt, ⟨⟨_, Heap.get?_push_size _ rfl, rfl, rfl⟩, Heap.get?_push_of_some _ hm⟩⟩
/-- sorted(d), the keys pairs of ints -/
theorem sorted_raw {k : Value → Int × Int} {Q : Value → Shared → Prop} (hh : A.handled = none) (lo : (d == sysModules) = false) (hd : s.heap.get? d = some o) (hx : o.ExactDict) (hdt : o.data = .dict es ep) (hn : es.size ≤ sizeLine)
    (hp : ∀ v ∈ es.toList.map (fun e => e.key), Srt.IsPair s.heap v (k v).1 (k v).2)
    (h : ∀ (h1 h' : Heap) (tk : Nat) (out : List Value), SrtO.Srtd (fun v u => SrtO.lexB (k v) (k u)) out → SrtO.Stb (fun v u => SrtO.lexB (k v) (k u)) out (es.toList.map fun e => e.key) → (∀ b o, s.heap.get? b = some o → h1.get? b = some o) → (∀ b o, h1.get? b = some o → h'.get? b = some o) → (∃ n, h'.get? h1.objs.size = some (seqObj "list" out.toArray n)) → Q (.ref h1.objs.size) { s with heap := h', toks := tk }) :
    wpAny (model prog w) A (call (.builtin "sorted") [.ref d]) Q E s := by
  refine Calls.call_function_entry kind_sorted plain_sorted entry_sorted (args_sorted1 _) ?_
  unfold Builtin.«sorted»
  refine wpAny_bind (m := checkCount "sorted" 1 1 _) (wpAny_pure ?_)
  refine wpAny_bind (kdu_collect (A := A.in1) (src_raw (prog := prog) (w := w) lo hx hdt) hh hd hn fun h' tk acc hk hacc => ?_)
  have hal : acc.toList.length = es.size := by rw [Array.length_toList, hacc.1]
  have hvs : acc.toList = es.toList.map (·.key) := by
    refine List.ext_getElem? fun j => ?_
    rw [List.getElem?_map, Array.getElem?_toList, Array.getElem?_toList]
    cases hj : acc[j]? with
    | none =>
      have h1 : acc.size ≤ j := Array.getElem?_eq_none_iff.mp hj
      have h2 : es[j]? = none := Array.getElem?_eq_none_iff.mpr (by rw [← hacc.1]; exact h1)
      rw [h2]; rfl
    | some v =>
      obtain ⟨en, e1, rfl⟩ := hacc.2 j v hj
      rw [e1]; rfl
  have hp' : ∀ v ∈ acc.toList, Srt.IsPair h' v (k v).1 (k v).2 := fun v hv => by
    rw [hvs] at hv
    exact (hp v hv).keeps fun b o e _ => hk b o e
  refine wpAny_bind (wpAny_newList ?_ (by rw [hal]; exact hn))
  have hoL : (h'.push (seqObj "list" acc.toList.toArray 0)).get? h'.objs.size = some (seqObj "list" acc.toList.toArray 0) := Heap.get?_push_size _ rfl
  show wpAny _ _ _ _ _ { s with heap := h'.push (seqObj "list" acc.toList.toArray 0), toks := tk }
  refine wpAny_bind (wpAny_holding (wpAny_call_entry slot_list_sort ⟨_, hoL, rfl⟩ entry_list_sort (SrtO.list_sort_ord (s := { s with heap := h'.push (seqObj "list" acc.toList.toArray 0), toks := tk }) (SrtO.swo_lex k) hoL (by rw [hal]; exact hn) (fun h2 => ?_) fun out hs hb => ⟨_, rfl, ?_⟩) (args_list_sort _)))
  · refine SrtO.pairs_sortableO (by omega) (fun v hm => (hp' v hm).keeps fun b o e _ => Heap.get?_push_of_some _ e) fun o e => ?_
    have e' : some o = some (seqObj "list" acc.toList.toArray 0) := e.symm.trans hoL
    cases e'
    intro c
    exact absurd (Value.type.inj c) (by decide)
  · obtain ⟨e', he'⟩ := sortedHeap_at (vs := acc.toList) (out := out.toArray) hoL
    refine wpAny_pure ⟨_, rfl, h h' _ tk out hs (by rw [← hvs]; exact hb) hk (fun b u e => ?_) ⟨e', he'⟩⟩
    have hb : b < h'.objs.size := Heap.lt_size e
    rw [sortedHeap_old (Nat.ne_of_lt hb) (by rw [size_push']; exact Nat.lt_succ_of_lt hb)]
    exact Heap.get?_push_of_some _ e
end
/-! ### as a rule -/
/-- the two ints of a tuple -/
def kH (H : Hp) : V → Int × Int
  | .ref a => match H a with
    | some (.tup [.int i, .int j]) => (i, j)
    | _ => (0, 0)
  | _ => (0, 0)
def leP (p q : Int × Int) : Bool := !SrtO.lexB q p
/-- sorted pairs -/
def sortP (ps : List (Int × Int)) : List (Int × Int) := ps.mergeSort leP
theorem leP_iff {p q : Int × Int} : leP p q = true ↔ p.1 < q.1 ∨ (p.1 = q.1 ∧ p.2 ≤ q.2) := by
  unfold leP
  cases h : SrtO.lexB q p with
  | true =>
    have := SrtO.lexB_iff.mp h
    simp
    omega
  | false =>
    have := SrtO.lexB_no.mp h
    simp
    omega
theorem leP_total (a b : Int × Int) : (leP a b || leP b a) = true := by
  rw [Bool.or_eq_true, leP_iff, leP_iff]
  omega
theorem leP_trans (a b c : Int × Int) (h1 : leP a b = true) (h2 : leP b c = true) : leP a c = true := by
  rw [leP_iff] at *
  omega
theorem leP_anti {a b : Int × Int} (h1 : leP a b = true) (h2 : leP b a = true) : a = b := by
  rw [leP_iff] at *
  exact Prod.ext (by omega) (by omega)
theorem sorted_uniq : ∀ {l m : List (Int × Int)}, l.Pairwise (fun a b => leP a b = true) → m.Pairwise (fun a b => leP a b = true) → l.Perm m → l = m
  | [], m, _, _, h => (List.nil_perm.mp h).symm
  | x :: l, [], _, _, h => by have := h.length_eq; simp at this
  | x :: l, y :: m, h1, h2, h => by
    have e : x = y := by
      have a1 := List.pairwise_cons.mp h1
      have a2 := List.pairwise_cons.mp h2
      rcases List.mem_cons.mp (h.mem_iff.mp (List.mem_cons_self (a := x) (l := l))) with e | hx
      · exact e
      · rcases List.mem_cons.mp (h.mem_iff.mpr (List.mem_cons_self (a := y) (l := m))) with e | hy
        · exact e.symm
        · exact leP_anti (a1.1 y hy) (a2.1 x hx)
    subst e
    rw [sorted_uniq (List.pairwise_cons.mp h1).2 (List.pairwise_cons.mp h2).2 h.cons_inv]
theorem sortP_sorted (ps : List (Int × Int)) : (sortP ps).Pairwise (fun a b => leP a b = true) := List.pairwise_mergeSort leP_trans leP_total ps
theorem sortP_perm (ps : List (Int × Int)) : (sortP ps).Perm ps := List.mergeSort_perm ps leP
def rSortDT : List V → Hp → VK → Prop := fun vs H Q => ∃ (a : Addr) (kvs : List (List L2.Key × V)) (ps : List (Int × Int)), vs = [V.ref a] ∧ H a = some (.dT kvs) ∧ kvs.map (·.1) = ps.map (fun p => [Sum.inl p.1, Sum.inl p.2]) ∧
  ∀ (ys : List V) (p : Addr), (∀ y ∈ ys, ∃ t i j, y = V.ref t ∧ H t = some (.tup [.int i, .int j])) → ys.map (kH H) = sortP ps → H p = none → Q (.ref p) (upd H p (.lst ys))
section
variable {X : Cx}
theorem cr_sortDT (hc : X.calm = true) : CallR X (.builtin "sorted") rSortDT := by
  intro pins s σ H vs us Q I r h
  obtain ⟨a, kvs, ps, rfl, ha, hks, q⟩ := h
  obtain ⟨u, rfl, ru⟩ := vals1 r
  obtain rfl : u = Value.ref a := ru
  obtain ⟨z, hs, xs, pr, o, es, ep, ho, hx, hdt, he, hnd⟩ := (show ObjOk X.prog X.w H s.heap a (.dT kvs) from I.hok a _ ha)
  have hsz : es.size = xs.length := size_of_entries he
  have hlen : kvs.length = xs.length := Paired.length pr
  have hkey : es.toList.map (fun e => e.key) = xs.map fun x => Value.ref x.2.1 := by
    rw [he, List.map_map]; rfl
  -- each key is a tuple of two ints
  have hat : ∀ x ∈ xs, ∃ i j, H x.2.1 = some (.tup [.int i, .int j]) ∧ x.1 = [Sum.inl i, Sum.inl j] := fun x hx => by
    obtain ⟨n, hn, rfl⟩ := List.getElem_of_mem hx
    have hk : n < kvs.length := by omega
    obtain ⟨b, hb, e1, e2, _⟩ := paired_get pr (List.getElem?_eq_getElem hk)
    rw [List.getElem?_eq_getElem hn] at hb
    cases hb
    have e3 : (kvs.map (·.1))[n]? = some kvs[n].1 := by rw [List.getElem?_map, List.getElem?_eq_getElem hk]; rfl
    rw [hks, List.getElem?_map, Option.map_eq_some_iff] at e3
    obtain ⟨p, _, e4⟩ := e3
    rw [← e4] at e1 e2
    exact ⟨p.1, p.2, e2, e1.symm⟩
  have hps : (xs.map fun x => kH H (V.ref x.2.1)) = ps := by
    have h1 : (xs.map (·.1)) = ps.map (fun p => [Sum.inl p.1, Sum.inl p.2]) := by
      rw [← hks]
      clear hks q hsz hlen hkey hat he hnd ha z
      induction pr with
      | nil => rfl
      | cons e _ ih => rw [List.map_cons, List.map_cons, ih, e.1]
    have h2 : (xs.map fun x => kH H (V.ref x.2.1)).map (fun p => ([Sum.inl p.1, Sum.inl p.2] : List L2.Key)) = xs.map (·.1) := by
      rw [List.map_map]
      refine List.map_congr_left fun x hx => ?_
      obtain ⟨i, j, e1, e2⟩ := hat x hx
      simp only [Function.comp, kH, e1, e2]
    rw [h1] at h2
    exact List.map_inj_right (f := fun p : Int × Int => ([Sum.inl p.1, Sum.inl p.2] : List L2.Key)) (fun a b hab => by
      simp at hab
      exact Prod.ext hab.1 hab.2) |>.mp h2
  refine sorted_raw (k := fun u => kH H (backV u)) (I.ok.hd hc) hs ho hx hdt (by omega) (fun v hv => ?_) fun h1 h' tk out so bo k1 k2 hn => ?_
  · rw [hkey] at hv
    obtain ⟨x, hx, rfl⟩ := List.mem_map.mp hv
    obtain ⟨i, j, e1, _⟩ := hat x hx
    obtain ⟨_, its2, r2, o2, ho2, hc2, n2, hd2⟩ := I.hok _ _ e1
    obtain ⟨u1, u2, rfl, ri, rj⟩ := vals2 r2
    obtain ⟨t1, rfl⟩ := ri
    obtain ⟨t2, rfl⟩ := rj
    refine ⟨x.2.1, o2, t1, t2, n2, rfl, ho2, hc2, ?_⟩
    show o2.data = .seq #[.int (kH H (V.ref x.2.1)).1 t1, .int (kH H (V.ref x.2.1)).2 t2] n2
    simp only [kH, e1]
    exact hd2
  · have I1 : Inv X pins σ H { s with heap := h1, toks := tk } := I.kept (t' := tk) k1
    rw [hkey] at bo
    have hmem : ∀ u ∈ out, ∃ x ∈ xs, u = Value.ref x.2.1 := fun u hu => by
      obtain ⟨x, hx, rfl⟩ := List.mem_map.mp (bo.perm.mem_iff.mp hu)
      exact ⟨x, hx, rfl⟩
    have h3 : ∀ u ∈ out, ∃ a, u = Value.ref a := fun u hu => let ⟨x, _, e⟩ := hmem u hu; ⟨_, e⟩
    obtain ⟨n, hn⟩ := hn
    have hol : out.length ≤ sizeLine := by rw [bo.perm.length_eq, List.length_map]; omega
    refine ⟨.ref h1.objs.size, upd H h1.objs.size (.lst (out.map backV)), I1.laid (t' := tk) k2 (Nat.le_refl _) ⟨by rw [List.length_map]; exact hol, out, n, vals_back h3, hn⟩, rfl, q _ _ (fun y hy => ?_) ?_ (I1.hok.fresh (Nat.le_refl _))⟩
    · obtain ⟨u, hu, rfl⟩ := List.mem_map.mp hy
      obtain ⟨x, hx, rfl⟩ := hmem u hu
      obtain ⟨i, j, e1, _⟩ := hat x hx
      exact ⟨x.2.1, i, j, rfl, e1⟩
    · refine sorted_uniq ?_ (sortP_sorted ps) ?_
      · rw [List.map_map, List.pairwise_map]
        refine List.Pairwise.imp (fun {u v} h => ?_) so
        show leP (kH H (backV u)) (kH H (backV v)) = true
        unfold leP
        have h : SrtO.lexB (kH H (backV v)) (kH H (backV u)) = false := h
        rw [h]; rfl
      · refine List.Perm.trans ?_ (sortP_perm ps).symm
        rw [← hps, List.map_map]
        have := bo.perm.map (fun u => kH H (backV u))
        rw [List.map_map] at this
        exact this
end
/-! ### over data -/
variable [KMap]
def prD (p : Int × Int) : D := .tup [.int p.1, .int p.2]
def prsK : List (List L2.Key) → Option (List (Int × Int))
  | [] => some []
  | [.inl i, .inl j] :: r => (prsK r).map ((i, j) :: ·)
  | _ => none
theorem prsK_some : ∀ {ks : List (List L2.Key)} {ps}, prsK ks = some ps → ks = ps.map (fun p => [Sum.inl p.1, Sum.inl p.2])
  | [], ps, h => by cases h; rfl
  | k :: r, ps, h => by
    unfold prsK at h
    split at h
    · rename_i heq; cases heq
    · rename_i heq
      cases heq
      obtain ⟨qs, hq, rfl⟩ := Option.map_eq_some_iff.mp h
      rw [prsK_some hq]; rfl
    · cases h
theorem prsK_map : ∀ ps : List (Int × Int), prsK (ps.map fun p => [Sum.inl p.1, Sum.inl p.2]) = some ps
  | [] => rfl
  | p :: r => by
    show (prsK (r.map _)).map ((p.1, p.2) :: ·) = _
    rw [prsK_map r]; rfl
noncomputable def fSortDT : FnL
  | [.loc n], S => match S[n]? with
    | some (.dT kvs) => match prsK (kvs.map (·.1)) with
      | some ps => .ok (.loc S.length) (S ++ [.lst ((sortP ps).map prD)])
      | none => .bad
    | _ => .bad
  | _, _ => .bad
theorem call_SortDT {X : Cx} {E : XK} (hc : X.calm = true) : CallF X E (.builtin "sorted") fSortDT := by
  refine ⟨_, cr_sortDT hc, fun ρ S H xs es Q s q h => ?_⟩
  unfold fSortDT at h
  split at h
  · split at h
    · rename_i n kvs hS
      split at h
      · rename_i ps hps
        obtain ⟨v, rfl, r⟩ := reps1 q
        cases r with
        | loc ea =>
          obtain ⟨a', ea', ks, hx, qy⟩ := s.at_ _ _ hS
          rw [ea] at ea'; cases ea'
          have hk : ks.map (·.1) = kvs.map (·.1) := by
            clear hps h hS hx
            induction qy with
            | nil => rfl
            | cons e _ ih => rw [List.map_cons, List.map_cons, ih, e.1]
          refine ⟨_, ks, ps, rfl, hx, hk.trans (prsK_some hps), fun ys p hy hym hp => ?_⟩
          refine new_lst (ds := (sortP ps).map prD) s ?_ h p hp
          rw [← hym, List.map_map]
          clear hym
          induction ys with
          | nil => exact .nil
          | cons y r ih =>
            obtain ⟨t, i, j, rfl, ht⟩ := hy y (by simp)
            refine .cons ?_ (ih fun z hz => hy z (by simp [hz]))
            show Rep H ρ (.ref t) (.tup [.int (kH H (V.ref t)).1, .int (kH H (V.ref t)).2])
            simp only [kH, ht]
            exact .tup ht (.cons (.int _) (.cons (.int _) .nil))
      · exact h.elim
    · exact h.elim
  · exact h.elim
theorem sortDT_eq {S : Sto} {n : Nat} {kvs : List (List L2.Key × D)} {ps : List (Int × Int)} (hS : S[n]? = some (.dT kvs)) (hk : kvs.map (·.1) = ps.map fun p => [Sum.inl p.1, Sum.inl p.2]) : fSortDT [.loc n] S = .ok (.loc S.length) (S ++ [.lst ((sortP ps).map prD)]) := by
  simp only [fSortDT, hS, hk, prsK_map]
end FL
set_option Elab.async false
set_option linter.all false
set_option maxRecDepth 100000
set_option maxHeartbeats 4000000
/-! the defs of the linked text: functional readings and derivations (printed by gen.py) -/
namespace G
open PySem PySem.Spec PyProof.Rows L2 FL
variable [KMap]
def topS (i : Nat) : Stmt := PySem.Challenge.pw_judgedplay_k80_bars_judged.main.body.getD i (.Pass ⟨0, 0, 0, 0⟩)
abbrev FnP (K : PySem.W.Frag) (x : Str) (st : Stmt) (f : Addr) (fd : FuncData) : Prop := FunD K x x (defArgs st) (defBody st) (defScope st) [] [] f fd
structure Bi (mg : Str → Option Value) : Prop where
  b_abs : mg "abs" = none
  b_all : mg "all" = none
  b_bool : mg "bool" = none
  b_int : mg "int" = none
  b_isinstance : mg "isinstance" = none
  b_len : mg "len" = none
  b_list : mg "list" = none
  b_max : mg "max" = none
  b_min : mg "min" = none
  b_range : mg "range" = none
  b_sorted : mg "sorted" = none
  b_tuple : mg "tuple" = none
abbrev slateness : Stmt := topS 1
abbrev Nlateness : List Str := ["d", "l"]
theorem sclateness : FnScope ["d", "l"] ["d", "l"] (defScope slateness) := ⟨rfl, rfl, rfl, by decide +kernel, rfl, by decide +kernel, by decide +kernel⟩
noncomputable def mlateness : Ms :=
  (mRet (mOp fAdd (mVar 0) (mVar 1)))
noncomputable def flateness : FnL := runB 2 2 mlateness
theorem oklateness {P : Program} {w : World} {K : PySem.W.Frag} {mg : Str → Option Value} {base : Heap} {fa : Addr} {fd : FuncData} (B : Bi mg) (F : FnP K "lateness" slateness fa fd) (g : mg "lateness" = some (.ref fa)) :
    DefOk P w K mg base 1 "lateness" ["d", "l"] flateness :=
  okDef (N := ["d", "l"]) F g sclateness (fun _ _ _ _ _ _ us hl => match us, hl with | [_, _], _ => rfl) fun cdv A outer s H E hr =>
    (fss_one (fs_ret (fe_op op_addF (fv 0) (fv 1))))

abbrev swait : Stmt := topS 2
abbrev Nwait : List Str := ["d", "l"]
theorem scwait : FnScope ["d", "l"] ["d", "l"] (defScope swait) := ⟨rfl, rfl, rfl, by decide +kernel, rfl, by decide +kernel, by decide +kernel⟩
noncomputable def mwait : Ms :=
  (mRet (mOp fAdd (mOp fMul (mC (.int 3)) (mOp fAdd (mVar 0) (mVar 1))) (mC (.int 2))))
noncomputable def fwait : FnL := runB 2 2 mwait
theorem okwait {P : Program} {w : World} {K : PySem.W.Frag} {mg : Str → Option Value} {base : Heap} {fa : Addr} {fd : FuncData} (B : Bi mg) (F : FnP K "wait" swait fa fd) (g : mg "wait" = some (.ref fa)) :
    DefOk P w K mg base 1 "wait" ["d", "l"] fwait :=
  okDef (N := ["d", "l"]) F g scwait (fun _ _ _ _ _ _ us hl => match us, hl with | [_, _], _ => rfl) fun cdv A outer s H E hr =>
    (fss_one (fs_ret (fe_op op_addF (fe_op op_mulF fe_int (fe_op op_addF (fv 0) (fv 1))) fe_int)))

abbrev sframes_of : Stmt := topS 3
abbrev Nframes_of : List Str := ["ticks", "d", "l"]
theorem scframes_of : FnScope ["ticks", "d", "l"] ["ticks", "d", "l"] (defScope sframes_of) := ⟨rfl, rfl, rfl, by decide +kernel, rfl, by decide +kernel, by decide +kernel⟩
noncomputable def mframes_of : Ms :=
  (mRet (mOp fAdd (mOp fAdd (mVar 0) (mL fwait (aCons (mVar 1) (aCons (mVar 2) aNil)))) (mC (.int 1))))
noncomputable def fframes_of : FnL := runB 3 3 mframes_of
theorem okframes_of {P : Program} {w : World} {K : PySem.W.Frag} {mg : Str → Option Value} {base : Heap} {fa : Addr} {fd : FuncData} (B : Bi mg) (F : FnP K "frames_of" sframes_of fa fd) (g : mg "frames_of" = some (.ref fa)) (Dwait : DefOk P w K mg base 1 "wait" ["d", "l"] fwait) :
    DefOk P w K mg base 2 "frames_of" ["ticks", "d", "l"] fframes_of :=
  okDef (N := ["ticks", "d", "l"]) F g scframes_of (fun _ _ _ _ _ _ us hl => match us, hl with | [_, _, _], _ => rfl) fun cdv A outer s H E hr =>
    (fss_one (fs_ret (fe_op op_addF (fe_op op_addF (fv 0) (fe_callD Dwait hr (by rfl) (fa_cons (fv 1) (fa_cons (fv 2) fa_nil)))) fe_int)))

abbrev sis_int : Stmt := topS 5
abbrev Nis_int : List Str := ["thing"]
theorem scis_int : FnScope ["thing"] ["thing"] (defScope sis_int) := ⟨rfl, rfl, rfl, by decide +kernel, rfl, by decide +kernel, by decide +kernel⟩
noncomputable def mis_int : Ms :=
  (mRet (mAndV (mL fIsi (aCons (mVar 0) (aCons (mC (.ty "int")) aNil))) (mNotV (mL fIsi (aCons (mVar 0) (aCons (mC (.ty "bool")) aNil))))))
noncomputable def fis_int : FnL := runB 1 1 mis_int
theorem okis_int {P : Program} {w : World} {K : PySem.W.Frag} {mg : Str → Option Value} {base : Heap} {fa : Addr} {fd : FuncData} (B : Bi mg) (F : FnP K "is_int" sis_int fa fd) (g : mg "is_int" = some (.ref fa)) :
    DefOk P w K mg base 1 "is_int" ["thing"] fis_int :=
  okDef (N := ["thing"]) F g scis_int (fun _ _ _ _ _ _ us hl => match us, hl with | [_], _ => rfl) fun cdv A outer s H E hr =>
    (fss_one (fs_ret (fe_and (fe_callB call_isiF (by rfl) B.b_isinstance (by decide +kernel) (fa_cons (fv 0) (fa_cons (fe_ty (by rfl) B.b_int (by decide +kernel)) fa_nil))) (fe_one (fe_not (fe_callB call_isiF (by rfl) B.b_isinstance (by decide +kernel) (fa_cons (fv 0) (fa_cons (fe_ty (by rfl) B.b_bool (by decide +kernel)) fa_nil))))))))

abbrev sis_row : Stmt := topS 6
abbrev Nis_row : List Str := ["thing", "many"]
theorem scis_row : FnScope ["thing", "many"] ["thing", "many"] (defScope sis_row) := ⟨rfl, rfl, rfl, by decide +kernel, rfl, by decide +kernel, by decide +kernel⟩
noncomputable def mis_row : Ms :=
  (mRet (mAndV (mL fIsi (aCons (mVar 0) (aCons (mC (.ty "tuple")) aNil))) (mOp fEq (mL fLen (aCons (mVar 0) aNil)) (mVar 1))))
noncomputable def fis_row : FnL := runB 2 2 mis_row
theorem okis_row {P : Program} {w : World} {K : PySem.W.Frag} {mg : Str → Option Value} {base : Heap} {fa : Addr} {fd : FuncData} (B : Bi mg) (F : FnP K "is_row" sis_row fa fd) (g : mg "is_row" = some (.ref fa)) :
    DefOk P w K mg base 1 "is_row" ["thing", "many"] fis_row :=
  okDef (N := ["thing", "many"]) F g scis_row (fun _ _ _ _ _ _ us hl => match us, hl with | [_, _], _ => rfl) fun cdv A outer s H E hr =>
    (fss_one (fs_ret (fe_and (fe_callB call_isiF (by rfl) B.b_isinstance (by decide +kernel) (fa_cons (fv 0) (fa_cons (fe_ty (by rfl) B.b_tuple (by decide +kernel)) fa_nil))) (fe_one (fe_cmp (op_eqF hr.units) (fe_callB call_lenF (by rfl) B.b_len (by decide +kernel) (fa_cons (fv 0) fa_nil)) (fv 1) (nomark _))))))

abbrev sis_ints : Stmt := topS 7
abbrev Nis_ints : List Str := ["thing", "one"]
theorem scis_ints : FnScope ["thing", "one"] ["thing"] (defScope sis_ints) := ⟨rfl, rfl, rfl, by decide +kernel, rfl, by decide +kernel, by decide +kernel⟩
noncomputable def mis_ints_b1 : Ms :=
  (mIfS (mNot (mTest (mL fis_int (aCons (mVar 1) aNil)))) (mRet (mC (.bl false))) mNext)
noncomputable def mis_ints : Ms :=
  (mSeq (mIfS (mNot (mTest (mL fIsi (aCons (mVar 0) (aCons (mC (.ty "tuple")) aNil))))) (mRet (mC (.bl false))) mNext)
  (mSeq (mFor (mIt (mVar 0)) (gN 1)
    mis_ints_b1)
  (mRet (mC (.bl true)))))
noncomputable def fis_ints : FnL := runB 1 2 mis_ints
theorem okis_ints {P : Program} {w : World} {K : PySem.W.Frag} {mg : Str → Option Value} {base : Heap} {fa : Addr} {fd : FuncData} (B : Bi mg) (F : FnP K "is_ints" sis_ints fa fd) (g : mg "is_ints" = some (.ref fa)) (Dis_int : DefOk P w K mg base 1 "is_int" ["thing"] fis_int) :
    DefOk P w K mg base 2 "is_ints" ["thing"] fis_ints :=
  okDef (N := ["thing", "one"]) F g scis_ints (fun _ _ _ _ _ _ us hl => match us, hl with | [_], _ => rfl) fun cdv A outer s H E hr =>
    (fss_cons (fs_if (ft_not (ft_val (fe_callB call_isiF (by rfl) B.b_isinstance (by decide +kernel) (fa_cons (fv 0) (fa_cons (fe_ty (by rfl) B.b_tuple (by decide +kernel)) fa_nil))))) (fss_one (fs_ret fe_bl)) fss_nil)
    (fss_cons (fs_for PassesOwn.never rfl (fi_any (fv 0)) (fg_name (i := 1) scis_ints.nd rfl (.inl rfl)) (fss_one (fs_if (ft_not (ft_val (fe_callD Dis_int hr (by rfl) (fa_cons (fv 1) fa_nil)))) (fss_one (fs_ret fe_bl)) fss_nil)))
    (fss_one (fs_ret fe_bl))))

abbrev sSpread__can_wait : Stmt := inClass (topS 9) 3
abbrev NSpread__can_wait : List Str := ["self", "frame", "stamp"]
theorem scSpread__can_wait : FnScope ["self", "frame", "stamp"] ["self", "frame", "stamp"] (defScope sSpread__can_wait) := ⟨rfl, rfl, rfl, by decide +kernel, rfl, by decide +kernel, by decide +kernel⟩
noncomputable def mSpread__can_wait : Ms :=
  (mRet (mOp fLe (mVar 1) (mOp fAdd (mVar 2) (mFld [(0, 2)] (mVar 0)))))
noncomputable def fSpread__can_wait : FnL := runB 3 3 mSpread__can_wait
theorem okSpread__can_wait {P : Program} {w : World} {K : PySem.W.Frag} {mg : Str → Option Value} {base : Heap} {fa : Addr} {fd : FuncData} (B : Bi mg) (F : FunD K "can_wait" "Spread.can_wait" (defArgs sSpread__can_wait) (defBody sSpread__can_wait) (defScope sSpread__can_wait) [] [] fa fd) (c : Cls K (KMap.κ 0)) (hm : Meth K (KMap.κ 0) "can_wait" fa) (hf : ("can_wait" : Str) ∉ KMap.fl 0) (FSpread_late : FldOk K 0 2 "late") :
    MetOk P w K mg base 1 0 "can_wait" fSpread__can_wait :=
  okMet (N := ["self", "frame", "stamp"]) F c hm hf scSpread__can_wait (fun _ _ _ _ _ _ us hl => match us, hl with | [_, _, _], _ => rfl) fun cdv A outer s H E hr =>
    (fss_one (fs_ret (fe_cmp op_leF (fv 1) (fe_op op_addF (fv 2) (fe_fld (fldTab_cons FSpread_late fldTab_nil) (fv 0))) (nomark _))))

abbrev sSpread__gain : Stmt := inClass (topS 9) 2
abbrev NSpread__gain : List Str := ["self", "frame", "stamp"]
theorem scSpread__gain : FnScope ["self", "frame", "stamp"] ["self", "frame", "stamp"] (defScope sSpread__gain) := ⟨rfl, rfl, rfl, by decide +kernel, rfl, by decide +kernel, by decide +kernel⟩
noncomputable def mSpread__gain : Ms :=
  (mRet (mL fMax2 (aCons (mC (.int 0)) (aCons (mOp fSub (mL fMin2 (aCons (mVar 1) (aCons (mFld [(0, 0)] (mVar 0)) aNil))) (mOp fAdd (mOp fAdd (mVar 2) (mC (.int 1))) (mFld [(0, 3)] (mVar 0)))) aNil))))
noncomputable def fSpread__gain : FnL := runB 3 3 mSpread__gain
theorem okSpread__gain {P : Program} {w : World} {K : PySem.W.Frag} {mg : Str → Option Value} {base : Heap} {fa : Addr} {fd : FuncData} (B : Bi mg) (F : FunD K "gain" "Spread.gain" (defArgs sSpread__gain) (defBody sSpread__gain) (defScope sSpread__gain) [] [] fa fd) (c : Cls K (KMap.κ 0)) (hm : Meth K (KMap.κ 0) "gain" fa) (hf : ("gain" : Str) ∉ KMap.fl 0) (FSpread_length : FldOk K 0 0 "length") (FSpread_lag : FldOk K 0 3 "lag") :
    MetOk P w K mg base 1 0 "gain" fSpread__gain :=
  okMet (N := ["self", "frame", "stamp"]) F c hm hf scSpread__gain (fun _ _ _ _ _ _ us hl => match us, hl with | [_, _, _], _ => rfl) fun cdv A outer s H E hr =>
    (fss_one (fs_ret (fe_callB (call_max2F rfl) (by rfl) B.b_max (by decide +kernel) (fa_cons fe_int (fa_cons (fe_op op_subF (fe_callB (call_min2F rfl) (by rfl) B.b_min (by decide +kernel) (fa_cons (fv 1) (fa_cons (fe_fld (fldTab_cons FSpread_length fldTab_nil) (fv 0)) fa_nil))) (fe_op op_addF (fe_op op_addF (fv 2) fe_int) (fe_fld (fldTab_cons FSpread_lag fldTab_nil) (fv 0)))) fa_nil)))))

abbrev sSpread__stamps : Stmt := inClass (topS 9) 4
abbrev NSpread__stamps : List Str := ["self", "frame", "stamp"]
theorem scSpread__stamps : FnScope ["self", "frame", "stamp"] ["self", "frame", "stamp"] (defScope sSpread__stamps) := ⟨rfl, rfl, rfl, by decide +kernel, rfl, by decide +kernel, by decide +kernel⟩
noncomputable def mSpread__stamps : Ms :=
  (mRet (mOp fLstRg2 (mL fMax2 (aCons (mOp fAdd (mVar 2) (mC (.int 1))) (aCons (mOp fSub (mVar 1) (mFld [(0, 1)] (mVar 0))) aNil))) (mOp fAdd (mVar 1) (mC (.int 1)))))
noncomputable def fSpread__stamps : FnL := runB 3 3 mSpread__stamps
theorem okSpread__stamps {P : Program} {w : World} {K : PySem.W.Frag} {mg : Str → Option Value} {base : Heap} {fa : Addr} {fd : FuncData} (B : Bi mg) (F : FunD K "stamps" "Spread.stamps" (defArgs sSpread__stamps) (defBody sSpread__stamps) (defScope sSpread__stamps) [] [] fa fd) (c : Cls K (KMap.κ 0)) (hm : Meth K (KMap.κ 0) "stamps" fa) (hf : ("stamps" : Str) ∉ KMap.fl 0) (FSpread_delay : FldOk K 0 1 "delay") :
    MetOk P w K mg base 1 0 "stamps" fSpread__stamps :=
  okMet (N := ["self", "frame", "stamp"]) F c hm hf scSpread__stamps (fun _ _ _ _ _ _ us hl => match us, hl with | [_, _, _], _ => rfl) fun cdv A outer s H E hr =>
    (fss_one (fs_ret (fe_listRg2 rfl (by rfl) B.b_list (by rfl) B.b_range (fe_callB (call_max2F rfl) (by rfl) B.b_max (by decide +kernel) (fa_cons (fe_op op_addF (fv 2) fe_int) (fa_cons (fe_op op_subF (fv 1) (fe_fld (fldTab_cons FSpread_delay fldTab_nil) (fv 0))) fa_nil))) (fe_op op_addF (fv 1) fe_int))))

abbrev sSpread__is_over : Stmt := inClass (topS 9) 1
abbrev NSpread__is_over : List Str := ["self", "stamp"]
theorem scSpread__is_over : FnScope ["self", "stamp"] ["self", "stamp"] (defScope sSpread__is_over) := ⟨rfl, rfl, rfl, by decide +kernel, rfl, by decide +kernel, by decide +kernel⟩
noncomputable def mSpread__is_over : Ms :=
  (mRet (mOp fGe (mOp fAdd (mVar 1) (mFld [(0, 3)] (mVar 0))) (mOp fSub (mFld [(0, 0)] (mVar 0)) (mC (.int 1)))))
noncomputable def fSpread__is_over : FnL := runB 2 2 mSpread__is_over
theorem okSpread__is_over {P : Program} {w : World} {K : PySem.W.Frag} {mg : Str → Option Value} {base : Heap} {fa : Addr} {fd : FuncData} (B : Bi mg) (F : FunD K "is_over" "Spread.is_over" (defArgs sSpread__is_over) (defBody sSpread__is_over) (defScope sSpread__is_over) [] [] fa fd) (c : Cls K (KMap.κ 0)) (hm : Meth K (KMap.κ 0) "is_over" fa) (hf : ("is_over" : Str) ∉ KMap.fl 0) (FSpread_lag : FldOk K 0 3 "lag") (FSpread_length : FldOk K 0 0 "length") :
    MetOk P w K mg base 1 0 "is_over" fSpread__is_over :=
  okMet (N := ["self", "stamp"]) F c hm hf scSpread__is_over (fun _ _ _ _ _ _ us hl => match us, hl with | [_, _], _ => rfl) fun cdv A outer s H E hr =>
    (fss_one (fs_ret (fe_cmp op_geF (fe_op op_addF (fv 1) (fe_fld (fldTab_cons FSpread_lag fldTab_nil) (fv 0))) (fe_op op_subF (fe_fld (fldTab_cons FSpread_length fldTab_nil) (fv 0)) fe_int) (nomark _))))

abbrev stotal_of : Stmt := topS 11
abbrev Ntotal_of : List Str := ["spread", "best", "frame", "stamp"]
theorem sctotal_of : FnScope ["spread", "best", "frame", "stamp"] ["spread", "best", "frame", "stamp"] (defScope stotal_of) := ⟨rfl, rfl, rfl, by decide +kernel, rfl, by decide +kernel, by decide +kernel⟩
noncomputable def mtotal_of : Ms :=
  (mSeq (mIfS (mTest (mMeth [(0, fSpread__is_over)] (mVar 0) (aCons (mVar 3) aNil))) (mRet (mC (.int 0))) mNext)
  (mRet (mOp fSub_ (mVar 1) (mL fTup (aCons (mVar 2) (aCons (mVar 3) aNil))))))
noncomputable def ftotal_of : FnL := runB 4 4 mtotal_of
theorem oktotal_of {P : Program} {w : World} {K : PySem.W.Frag} {mg : Str → Option Value} {base : Heap} {fa : Addr} {fd : FuncData} (B : Bi mg) (F : FnP K "total_of" stotal_of fa fd) (g : mg "total_of" = some (.ref fa)) (DSpread__is_over : MetOk P w K mg base 1 0 "is_over" fSpread__is_over) :
    DefOk P w K mg base 2 "total_of" ["spread", "best", "frame", "stamp"] ftotal_of :=
  okDef (N := ["spread", "best", "frame", "stamp"]) F g sctotal_of (fun _ _ _ _ _ _ us hl => match us, hl with | [_, _, _, _], _ => rfl) fun cdv A outer s H E hr =>
    (fss_cons (fs_if (ft_val (fe_meth (k := 1) (metTab_cons DSpread__is_over metTab_nil) hr (fv 0) (fa_cons (fv 3) fa_nil))) (fss_one (fs_ret fe_int)) fss_nil)
    (fss_one (fs_ret (fe_sub (hu_of hr) (fv 1) (fe_tup (fa_cons (fv 2) (fa_cons (fv 3) fa_nil))) (fun _ _ => rfl)))))

abbrev sbest_from : Stmt := topS 12
abbrev Nbest_from : List Str := ["spread", "best", "frame", "stamp", "found", "gain", "new"]
theorem scbest_from : FnScope ["spread", "best", "frame", "stamp", "found", "gain", "new"] ["spread", "best", "frame", "stamp"] (defScope sbest_from) := ⟨rfl, rfl, rfl, by decide +kernel, rfl, by decide +kernel, by decide +kernel⟩
noncomputable def mbest_from_b1 : Ms :=
  (mSet 4 (mL fMax2 (aCons (mVar 4) (aCons (mOp fAdd (mVar 5) (mL ftotal_of (aCons (mVar 0) (aCons (mVar 1) (aCons (mOp fAdd (mVar 2) (mC (.int 1))) (aCons (mVar 6) aNil)))))) aNil))))
noncomputable def mbest_from : Ms :=
  (mSeq (mIfS (mTest (mOp fGe (mVar 2) (mFld [(0, 4)] (mVar 0)))) (mRet (mC (.int 0))) mNext)
  (mSeq (mSet 4 (mUn fNeg (mC (.int 1))))
  (mSeq (mIfS (mTest (mMeth [(0, fSpread__can_wait)] (mVar 0) (aCons (mVar 2) (aCons (mVar 3) aNil)))) (mSet 4 (mL ftotal_of (aCons (mVar 0) (aCons (mVar 1) (aCons (mOp fAdd (mVar 2) (mC (.int 1))) (aCons (mVar 3) aNil)))))) mNext)
  (mSeq (mSet 5 (mMeth [(0, fSpread__gain)] (mVar 0) (aCons (mVar 2) (aCons (mVar 3) aNil))))
  (mSeq (mFor (mIt (mMeth [(0, fSpread__stamps)] (mVar 0) (aCons (mVar 2) (aCons (mVar 3) aNil)))) (gN 6)
    mbest_from_b1)
  (mRet (mVar 4)))))))
noncomputable def fbest_from : FnL := runB 4 7 mbest_from
theorem okbest_from {P : Program} {w : World} {K : PySem.W.Frag} {mg : Str → Option Value} {base : Heap} {fa : Addr} {fd : FuncData} (B : Bi mg) (F : FnP K "best_from" sbest_from fa fd) (g : mg "best_from" = some (.ref fa)) (DSpread__can_wait : MetOk P w K mg base 1 0 "can_wait" fSpread__can_wait) (Dtotal_of : DefOk P w K mg base 2 "total_of" ["spread", "best", "frame", "stamp"] ftotal_of) (DSpread__gain : MetOk P w K mg base 1 0 "gain" fSpread__gain) (DSpread__stamps : MetOk P w K mg base 1 0 "stamps" fSpread__stamps) (FSpread_frames : FldOk K 0 4 "frames") :
    DefOk P w K mg base 3 "best_from" ["spread", "best", "frame", "stamp"] fbest_from :=
  okDef (N := ["spread", "best", "frame", "stamp", "found", "gain", "new"]) F g scbest_from (fun _ _ _ _ _ _ us hl => match us, hl with | [_, _, _, _], _ => rfl) fun cdv A outer s H E hr =>
    (fss_cons (fs_if (ft_cmp op_geF (fv 2) (fe_fld (fldTab_cons FSpread_frames fldTab_nil) (fv 0)) (nomark _)) (fss_one (fs_ret fe_int)) fss_nil)
    (fss_cons (fs_set (i := 4) scbest_from.nd rfl (.inl rfl) (fe_un un_negF fe_int))
    (fss_cons (fs_if (ft_val (fe_meth (k := 1) (metTab_cons DSpread__can_wait metTab_nil) hr (fv 0) (fa_cons (fv 2) (fa_cons (fv 3) fa_nil)))) (fss_one (fs_set (i := 4) scbest_from.nd rfl (.inl rfl) (fe_callD Dtotal_of hr (by rfl) (fa_cons (fv 0) (fa_cons (fv 1) (fa_cons (fe_op op_addF (fv 2) fe_int) (fa_cons (fv 3) fa_nil))))))) fss_nil)
    (fss_cons (fs_set (i := 5) scbest_from.nd rfl (.inl rfl) (fe_meth (k := 1) (metTab_cons DSpread__gain metTab_nil) hr (fv 0) (fa_cons (fv 2) (fa_cons (fv 3) fa_nil))))
    (fss_cons (fs_for PassesOwn.never rfl (fi_any (fe_meth (k := 1) (metTab_cons DSpread__stamps metTab_nil) hr (fv 0) (fa_cons (fv 2) (fa_cons (fv 3) fa_nil)))) (fg_name (i := 6) scbest_from.nd rfl (.inl rfl)) (fss_one (fs_set (i := 4) scbest_from.nd rfl (.inl rfl) (fe_callB (call_max2F rfl) (by rfl) B.b_max (by decide +kernel) (fa_cons (fv 4) (fa_cons (fe_op op_addF (fv 5) (fe_callD Dtotal_of hr (by rfl) (fa_cons (fv 0) (fa_cons (fv 1) (fa_cons (fe_op op_addF (fv 2) fe_int) (fa_cons (fv 6) fa_nil)))))) fa_nil))))))
    (fss_one (fs_ret (fv 4))))))))

abbrev srows_of : Stmt := topS 10
abbrev Nrows_of : List Str := ["spread", "best", "frame", "stamp"]
theorem scrows_of : FnScope ["spread", "best", "frame", "stamp"] ["spread"] (defScope srows_of) := ⟨rfl, rfl, rfl, by decide +kernel, rfl, by decide +kernel, by decide +kernel⟩
noncomputable def mrows_of_b1 : Ms :=
  (mIfS (mAnd (mNot (mTest (mMeth [(0, fSpread__is_over)] (mVar 0) (aCons (mVar 3) aNil)))) (mTest (mOp fLe (mVar 2) (mOp fAdd (mOp fAdd (mVar 3) (mC (.int 1))) (mFld [(0, 2)] (mVar 0)))))) (mAsg (mL fbest_from (aCons (mVar 0) (aCons (mVar 1) (aCons (mVar 2) (aCons (mVar 3) aNil))))) (gSb fSet_ (mVar 1) (mL fTup (aCons (mVar 2) (aCons (mVar 3) aNil))))) mNext)
noncomputable def mrows_of_b2 : Ms :=
  (mFor (iRg fRg2 (aCons (mUn fNeg (mC (.int 1))) (aCons (mVar 2) aNil))) (gN 3)
    mrows_of_b1)
noncomputable def mrows_of : Ms :=
  (mSeq (mSet 1 mDnewT)
  (mSeq (mFor (iRg fRg3 (aCons (mFld [(0, 4)] (mVar 0)) (aCons (mUn fNeg (mC (.int 1))) (aCons (mUn fNeg (mC (.int 1))) aNil)))) (gN 2)
    mrows_of_b2)
  (mRet (mVar 1))))
noncomputable def frows_of : FnL := runB 1 4 mrows_of
theorem okrows_of {P : Program} {w : World} {K : PySem.W.Frag} {mg : Str → Option Value} {base : Heap} {fa : Addr} {fd : FuncData} (B : Bi mg) (F : FnP K "rows_of" srows_of fa fd) (g : mg "rows_of" = some (.ref fa)) (DSpread__is_over : MetOk P w K mg base 1 0 "is_over" fSpread__is_over) (Dbest_from : DefOk P w K mg base 3 "best_from" ["spread", "best", "frame", "stamp"] fbest_from) (FSpread_frames : FldOk K 0 4 "frames") (FSpread_late : FldOk K 0 2 "late") :
    DefOk P w K mg base 4 "rows_of" ["spread"] frows_of :=
  okDef (N := ["spread", "best", "frame", "stamp"]) F g scrows_of (fun _ _ _ _ _ _ us hl => match us, hl with | [_], _ => rfl) fun cdv A outer s H E hr =>
    (fss_cons (fs_set (i := 1) scrows_of.nd rfl (.inl rfl) fe_dnewT)
    (fss_cons (fs_for PassesOwn.never rfl (fi_range3 (by rfl) B.b_range (fa_cons (fe_fld (fldTab_cons FSpread_frames fldTab_nil) (fv 0)) (fa_cons (fe_un un_negF fe_int) (fa_cons (fe_un un_negF fe_int) fa_nil)))) (fg_name (i := 2) scrows_of.nd rfl (.inl rfl)) (fss_one (fs_for PassesOwn.never rfl (fi_range2 (by rfl) B.b_range (fa_cons (fe_un un_negF fe_int) (fa_cons (fv 2) fa_nil))) (fg_name (i := 3) scrows_of.nd rfl (.inl rfl)) (fss_one (fs_if (fw_pt (fw_and (ft_not (ft_val (fe_meth (k := 1) (metTab_cons DSpread__is_over metTab_nil) hr (fv 0) (fa_cons (fv 3) fa_nil)))) (fw_and1 (ft_cmp op_leF (fv 2) (fe_op op_addF (fe_op op_addF (fv 3) fe_int) (fe_fld (fldTab_cons FSpread_late fldTab_nil) (fv 0))) (nomark _))))) (fss_one (fs_asg (fe_callD Dbest_from hr (by rfl) (fa_cons (fv 0) (fa_cons (fv 1) (fa_cons (fv 2) (fa_cons (fv 3) fa_nil))))) (fg_sub (fv 1) (fe_tup (fa_cons (fv 2) (fa_cons (fv 3) fa_nil))) (setF (hu_of hr))))) fss_nil)))))
    (fss_one (fs_ret (fv 1)))))

abbrev sfollowers : Stmt := topS 13
abbrev Nfollowers : List Str := ["spread", "frame", "stamp", "found", "new"]
theorem scfollowers : FnScope ["spread", "frame", "stamp", "found", "new"] ["spread", "frame", "stamp"] (defScope sfollowers) := ⟨rfl, rfl, rfl, by decide +kernel, rfl, by decide +kernel, by decide +kernel⟩
noncomputable def mfollowers_b1 : Ms :=
  (mDrop (mBM "list" fApp (mVar 3) (aCons (mL fTup (aCons (mMeth [(0, fSpread__gain)] (mVar 0) (aCons (mVar 1) (aCons (mVar 2) aNil))) (aCons (mOp fAdd (mVar 1) (mC (.int 1))) (aCons (mVar 4) aNil)))) aNil)))
noncomputable def mfollowers : Ms :=
  (mSeq (mSet 3 (mL fLst aNil))
  (mSeq (mIfS (mTest (mMeth [(0, fSpread__can_wait)] (mVar 0) (aCons (mVar 1) (aCons (mVar 2) aNil)))) (mDrop (mBM "list" fApp (mVar 3) (aCons (mL fTup (aCons (mC (.int 0)) (aCons (mOp fAdd (mVar 1) (mC (.int 1))) (aCons (mVar 2) aNil)))) aNil))) mNext)
  (mSeq (mFor (mIt (mMeth [(0, fSpread__stamps)] (mVar 0) (aCons (mVar 1) (aCons (mVar 2) aNil)))) (gN 4)
    mfollowers_b1)
  (mRet (mVar 3)))))
noncomputable def ffollowers : FnL := runB 3 5 mfollowers
theorem okfollowers {P : Program} {w : World} {K : PySem.W.Frag} {mg : Str → Option Value} {base : Heap} {fa : Addr} {fd : FuncData} (B : Bi mg) (F : FnP K "followers" sfollowers fa fd) (g : mg "followers" = some (.ref fa)) (DSpread__can_wait : MetOk P w K mg base 1 0 "can_wait" fSpread__can_wait) (DSpread__stamps : MetOk P w K mg base 1 0 "stamps" fSpread__stamps) (DSpread__gain : MetOk P w K mg base 1 0 "gain" fSpread__gain) :
    DefOk P w K mg base 2 "followers" ["spread", "frame", "stamp"] ffollowers :=
  okDef (N := ["spread", "frame", "stamp", "found", "new"]) F g scfollowers (fun _ _ _ _ _ _ us hl => match us, hl with | [_, _, _], _ => rfl) fun cdv A outer s H E hr =>
    (fss_cons (fs_set (i := 3) scfollowers.nd rfl (.inl rfl) (fe_lst fa_nil))
    (fss_cons (fs_if (ft_val (fe_meth (k := 1) (metTab_cons DSpread__can_wait metTab_nil) hr (fv 0) (fa_cons (fv 1) (fa_cons (fv 2) fa_nil)))) (fss_one (fs_expr (fe_bm PySem.F.plainAttrs_list PySem.F.slot_list_append PySem.F.type_list_append mt_appF (fv 3) (fa_cons (fe_tup (fa_cons fe_int (fa_cons (fe_op op_addF (fv 1) fe_int) (fa_cons (fv 2) fa_nil)))) fa_nil)))) fss_nil)
    (fss_cons (fs_for PassesOwn.never rfl (fi_any (fe_meth (k := 1) (metTab_cons DSpread__stamps metTab_nil) hr (fv 0) (fa_cons (fv 1) (fa_cons (fv 2) fa_nil)))) (fg_name (i := 4) scfollowers.nd rfl (.inl rfl)) (fss_one (fs_expr (fe_bm PySem.F.plainAttrs_list PySem.F.slot_list_append PySem.F.type_list_append mt_appF (fv 3) (fa_cons (fe_tup (fa_cons (fe_meth (k := 1) (metTab_cons DSpread__gain metTab_nil) hr (fv 0) (fa_cons (fv 1) (fa_cons (fv 2) fa_nil))) (fa_cons (fe_op op_addF (fv 1) fe_int) (fa_cons (fv 4) fa_nil)))) fa_nil)))))
    (fss_one (fs_ret (fv 3))))))

abbrev sreachable : Stmt := topS 14
abbrev Nreachable : List Str := ["spread", "met", "left", "pair", "gain", "frame", "stamp"]
theorem screachable : FnScope ["spread", "met", "left", "pair", "gain", "frame", "stamp"] ["spread"] (defScope sreachable) := ⟨rfl, rfl, rfl, by decide +kernel, rfl, by decide +kernel, by decide +kernel⟩
noncomputable def mreachable_b1 : Ms :=
  (mIfS (mNot (mTest (mMeth [(0, fSpread__is_over)] (mVar 0) (aCons (mVar 6) aNil)))) (mDrop (mBM "list" fApp (mVar 2) (aCons (mL fTup (aCons (mVar 5) (aCons (mVar 6) aNil))) aNil))) mNext)
noncomputable def mreachable_b2 : Ms :=
  (mSeq (mSet 3 (mBM "list" fPop (mVar 2) aNil))
  (mIfS (mAnd (mTest (mOp fNotIn (mVar 3) (mVar 1))) (mTest (mOp fLt (mOp fSub_ (mVar 3) (mC (.int 0))) (mFld [(0, 4)] (mVar 0))))) (mSeq (mAsg (mC (.bl true)) (gSb fSet_ (mVar 1) (mVar 3)))
  (mFor (mIt (mL ffollowers (aCons (mVar 0) (aCons (mOp fSub_ (mVar 3) (mC (.int 0))) (aCons (mOp fSub_ (mVar 3) (mC (.int 1))) aNil))))) (gTp 3 (gsCons (gN 4) (gsCons (gN 5) (gsCons (gN 6) gsNil))))
    mreachable_b1)) mNext))
noncomputable def mreachable : Ms :=
  (mSeq (mSet 1 mDnewT)
  (mSeq (mSet 2 (mL fLst aNil))
  (mSeq (mIfS (mNot (mTest (mMeth [(0, fSpread__is_over)] (mVar 0) (aCons (mUn fNeg (mC (.int 1))) aNil)))) (mDrop (mBM "list" fApp (mVar 2) (aCons (mL fTup (aCons (mC (.int 0)) (aCons (mUn fNeg (mC (.int 1))) aNil))) aNil))) mNext)
  (mSeq (mWhile (mTest (mOp fGt (mL fLen (aCons (mVar 2) aNil)) (mC (.int 0)))) mreachable_b2)
  (mRet (mVar 1))))))
noncomputable def freachable : FnL := runB 1 7 mreachable
theorem okreachable {P : Program} {w : World} {K : PySem.W.Frag} {mg : Str → Option Value} {base : Heap} {fa : Addr} {fd : FuncData} (B : Bi mg) (F : FnP K "reachable" sreachable fa fd) (g : mg "reachable" = some (.ref fa)) (DSpread__is_over : MetOk P w K mg base 1 0 "is_over" fSpread__is_over) (Dfollowers : DefOk P w K mg base 2 "followers" ["spread", "frame", "stamp"] ffollowers) (FSpread_frames : FldOk K 0 4 "frames") :
    DefOk P w K mg base 3 "reachable" ["spread"] freachable :=
  okDef (N := ["spread", "met", "left", "pair", "gain", "frame", "stamp"]) F g screachable (fun _ _ _ _ _ _ us hl => match us, hl with | [_], _ => rfl) fun cdv A outer s H E hr =>
    (fss_cons (fs_set (i := 1) screachable.nd rfl (.inl rfl) fe_dnewT)
    (fss_cons (fs_set (i := 2) screachable.nd rfl (.inl rfl) (fe_lst fa_nil))
    (fss_cons (fs_if (ft_not (ft_val (fe_meth (k := 1) (metTab_cons DSpread__is_over metTab_nil) hr (fv 0) (fa_cons (fe_un un_negF fe_int) fa_nil)))) (fss_one (fs_expr (fe_bm PySem.F.plainAttrs_list PySem.F.slot_list_append PySem.F.type_list_append mt_appF (fv 2) (fa_cons (fe_tup (fa_cons fe_int (fa_cons (fe_un un_negF fe_int) fa_nil))) fa_nil)))) fss_nil)
    (fss_cons (fs_while PassesOwn.never (ft_cmp op_gtF (fe_callB call_lenF (by rfl) B.b_len (by decide +kernel) (fa_cons (fv 2) fa_nil)) fe_int (nomark _)) (fss_cons (fs_set (i := 3) screachable.nd rfl (.inl rfl) (fe_bm0 PySem.F.plainAttrs_list PySem.F.slot_list_pop PySem.F.type_list_pop mt_popF (fv 2)))
    (fss_one (fs_if (fw_pt (fw_and (ft_notIn (hu_of hr) (fv 3) (fv 1)) (fw_and1 (ft_cmp op_ltF (fe_sub (hu_of hr) (fv 3) fe_int (fun _ _ => rfl)) (fe_fld (fldTab_cons FSpread_frames fldTab_nil) (fv 0)) (nomark _))))) (fss_cons (fs_asg fe_bl (fg_sub (fv 1) (fv 3) (setF (hu_of hr))))
    (fss_one (fs_for PassesOwn.never rfl (fi_any (fe_callD Dfollowers hr (by rfl) (fa_cons (fv 0) (fa_cons (fe_sub (hu_of hr) (fv 3) fe_int (fun _ _ => rfl)) (fa_cons (fe_sub (hu_of hr) (fv 3) fe_int (fun _ _ => rfl)) fa_nil))))) (fg_tup rfl (fgs_cons (fg_name (i := 4) screachable.nd rfl (.inl rfl)) (fgs_cons (fg_name (i := 5) screachable.nd rfl (.inl rfl)) (fgs_cons (fg_name (i := 6) screachable.nd rfl (.inl rfl)) fgs_nil))) (by rfl)) (fss_one (fs_if (ft_not (ft_val (fe_meth (k := 1) (metTab_cons DSpread__is_over metTab_nil) hr (fv 0) (fa_cons (fv 6) fa_nil)))) (fss_one (fs_expr (fe_bm PySem.F.plainAttrs_list PySem.F.slot_list_append PySem.F.type_list_append mt_appF (fv 2) (fa_cons (fe_tup (fa_cons (fv 5) (fa_cons (fv 6) fa_nil))) fa_nil)))) fss_nil))))) fss_nil))))
    (fss_one (fs_ret (fv 1)))))))

abbrev sSpread____init__ : Stmt := inClass (topS 9) 0
abbrev NSpread____init__ : List Str := ["self", "ticks", "d", "l", "lag"]
theorem scSpread____init__ : FnScope ["self", "ticks", "d", "l", "lag"] ["self", "ticks", "d", "l", "lag"] (defScope sSpread____init__) := ⟨rfl, rfl, rfl, by decide +kernel, rfl, by decide +kernel, by decide +kernel⟩
noncomputable def mSpread____init__ : Ms :=
  (mSeq (mSetF [(0, 0)] (mVar 0) (mVar 1))
  (mSeq (mSetF [(0, 1)] (mVar 0) (mVar 2))
  (mSeq (mSetF [(0, 2)] (mVar 0) (mL flateness (aCons (mVar 2) (aCons (mVar 3) aNil))))
  (mSeq (mSetF [(0, 3)] (mVar 0) (mVar 4))
  (mSetF [(0, 4)] (mVar 0) (mL fframes_of (aCons (mVar 1) (aCons (mVar 2) (aCons (mVar 3) aNil)))))))))
noncomputable def fSpread____init__ : FnL := runB 5 5 mSpread____init__
theorem okSpread____init__ {P : Program} {w : World} {K : PySem.W.Frag} {mg : Str → Option Value} {base : Heap} {fa : Addr} {fd : FuncData} (B : Bi mg) (F : FunD K "__init__" "Spread.__init__" (defArgs sSpread____init__) (defBody sSpread____init__) (defScope sSpread____init__) [] [] fa fd) (M : Mk K (KMap.κ 0) fa) (g : mg "Spread" = some (.ref (KMap.κ 0))) (Dlateness : DefOk P w K mg base 1 "lateness" ["d", "l"] flateness) (Dframes_of : DefOk P w K mg base 2 "frames_of" ["ticks", "d", "l"] fframes_of) (FSpread_length : FldOk K 0 0 "length") (FSpread_delay : FldOk K 0 1 "delay") (FSpread_late : FldOk K 0 2 "late") (FSpread_lag : FldOk K 0 3 "lag") (FSpread_frames : FldOk K 0 4 "frames") :
    MkOk P w K mg base 3 0 "Spread" fSpread____init__ :=
  okMk (N := ["self", "ticks", "d", "l", "lag"]) F M g scSpread____init__ (fun _ _ _ _ _ _ us hl => match us, hl with | [_, _, _, _, _], _ => rfl) fun cdv A outer s H E hr =>
    (fss_cons (fs_fld (fldTab_cons FSpread_length fldTab_nil) (fv 0) (fv 1))
    (fss_cons (fs_fld (fldTab_cons FSpread_delay fldTab_nil) (fv 0) (fv 2))
    (fss_cons (fs_fld (fldTab_cons FSpread_late fldTab_nil) (fv 0) (fe_callD Dlateness hr (by rfl) (fa_cons (fv 2) (fa_cons (fv 3) fa_nil))))
    (fss_cons (fs_fld (fldTab_cons FSpread_lag fldTab_nil) (fv 0) (fv 4))
    (fss_one (fs_fld (fldTab_cons FSpread_frames fldTab_nil) (fv 0) (fe_callD Dframes_of hr (by rfl) (fa_cons (fv 1) (fa_cons (fv 2) (fa_cons (fv 3) fa_nil))))))))))

abbrev sworst_bar : Stmt := topS 15
abbrev Nworst_bar : List Str := ["ticks", "d", "l", "lag", "spread", "best", "pair"]
theorem scworst_bar : FnScope ["ticks", "d", "l", "lag", "spread", "best", "pair"] ["ticks", "d", "l", "lag"] (defScope sworst_bar) := ⟨rfl, rfl, rfl, by decide +kernel, rfl, by decide +kernel, by decide +kernel⟩
noncomputable def mworst_bar : Ms :=
  (mSeq (mSet 4 (mMake 0 fSpread____init__ (aCons (mVar 0) (aCons (mVar 1) (aCons (mVar 2) (aCons (mVar 3) aNil))))))
  (mSeq (mSet 5 (mL frows_of (aCons (mVar 4) aNil)))
  (mRet (mL fTupOf (aCons (mComp (mIt (mL fSortDT (aCons (mL freachable (aCons (mVar 4) aNil)) aNil))) (gN 6) mYes (mL fTup (aCons (mOp fSub_ (mVar 6) (mC (.int 0))) (aCons (mOp fSub_ (mVar 6) (mC (.int 1))) (aCons (mOp fSub_ (mVar 5) (mVar 6)) aNil)))) [6]) aNil)))))
noncomputable def fworst_bar : FnL := runB 4 7 mworst_bar
theorem okworst_bar {P : Program} {w : World} {K : PySem.W.Frag} {mg : Str → Option Value} {base : Heap} {fa : Addr} {fd : FuncData} (B : Bi mg) (F : FnP K "worst_bar" sworst_bar fa fd) (g : mg "worst_bar" = some (.ref fa)) (DSpread____init__ : MkOk P w K mg base 3 0 "Spread" fSpread____init__) (Drows_of : DefOk P w K mg base 4 "rows_of" ["spread"] frows_of) (Dreachable : DefOk P w K mg base 3 "reachable" ["spread"] freachable) :
    DefOk P w K mg base 5 "worst_bar" ["ticks", "d", "l", "lag"] fworst_bar :=
  okDef (N := ["ticks", "d", "l", "lag", "spread", "best", "pair"]) F g scworst_bar (fun _ _ _ _ _ _ us hl => match us, hl with | [_, _, _, _], _ => rfl) fun cdv A outer s H E hr =>
    (fss_cons (fs_set (i := 4) scworst_bar.nd rfl (.inl rfl) (fe_make DSpread____init__ hr (by rfl) (fa_cons (fv 0) (fa_cons (fv 1) (fa_cons (fv 2) (fa_cons (fv 3) fa_nil))))))
    (fss_cons (fs_set (i := 5) scworst_bar.nd rfl (.inr rfl) (fe_callD Drows_of hr (by rfl) (fa_cons (fv 4) fa_nil)))
    (fss_one (fs_ret (fe_callTy call_tupF (by rfl) B.b_tuple (by decide +kernel) (fa_cons (fe_lc (own := [("pair", 6)]) (g := (gN 6)) (t := mYes) rfl scworst_bar.nd (fi_any (fe_callB (call_SortDT rfl) (by rfl) B.b_sorted (by decide +kernel) (fa_cons (fe_callD Dreachable hr (by rfl) (fa_cons (fv 4) fa_nil)) fa_nil))) (blkOk_by (N := Nworst_bar) (sc := defScope sworst_bar) (by decide +kernel)) (fun _ _ _ _ _ => (fg_name (i := 6) scworst_bar.nd rfl (.inl rfl))) (fun _ _ _ _ _ => fts_nil) (fun _ _ _ _ _ => (fe_tup (fa_cons (fe_sub (hu_of hr) (fv 6) fe_int (fun _ _ => rfl)) (fa_cons (fe_sub (hu_of hr) (fv 6) fe_int (fun _ _ => rfl)) (fa_cons (fe_sub (hu_of hr) (fv 5) (fv 6) (fun _ _ => rfl)) fa_nil)))))) fa_nil))))))

abbrev sbar_table : Stmt := topS 16
abbrev Nbar_table : List Str := ["rows", "table", "row"]
theorem scbar_table : FnScope ["rows", "table", "row"] ["rows"] (defScope sbar_table) := ⟨rfl, rfl, rfl, by decide +kernel, rfl, by decide +kernel, by decide +kernel⟩
noncomputable def mbar_table_b1 : Ms :=
  (mSeq (mIfS (mOr (mNot (mTest (mL fis_row (aCons (mVar 2) (aCons (mC (.int 3)) aNil))))) (mOr (mNot (mTest (mL fis_ints (aCons (mVar 2) aNil)))) (mTest (mOp fIn (mL fTup (aCons (mOp fSub_ (mVar 2) (mC (.int 0))) (aCons (mOp fSub_ (mVar 2) (mC (.int 1))) aNil))) (mVar 1))))) (mRet (mC .non)) mNext)
  (mAsg (mOp fSub_ (mVar 2) (mC (.int 2))) (gSb fSet_ (mVar 1) (mL fTup (aCons (mOp fSub_ (mVar 2) (mC (.int 0))) (aCons (mOp fSub_ (mVar 2) (mC (.int 1))) aNil))))))
noncomputable def mbar_table : Ms :=
  (mSeq (mIfS (mNot (mTest (mL fIsi (aCons (mVar 0) (aCons (mC (.ty "tuple")) aNil))))) (mRet (mC .non)) mNext)
  (mSeq (mSet 1 mDnewT)
  (mSeq (mFor (mIt (mVar 0)) (gN 2)
    mbar_table_b1)
  (mRet (mVar 1)))))
noncomputable def fbar_table : FnL := runB 1 3 mbar_table
theorem okbar_table {P : Program} {w : World} {K : PySem.W.Frag} {mg : Str → Option Value} {base : Heap} {fa : Addr} {fd : FuncData} (B : Bi mg) (F : FnP K "bar_table" sbar_table fa fd) (g : mg "bar_table" = some (.ref fa)) (Dis_row : DefOk P w K mg base 1 "is_row" ["thing", "many"] fis_row) (Dis_ints : DefOk P w K mg base 2 "is_ints" ["thing"] fis_ints) :
    DefOk P w K mg base 3 "bar_table" ["rows"] fbar_table :=
  okDef (N := ["rows", "table", "row"]) F g scbar_table (fun _ _ _ _ _ _ us hl => match us, hl with | [_], _ => rfl) fun cdv A outer s H E hr =>
    (fss_cons (fs_if (ft_not (ft_val (fe_callB call_isiF (by rfl) B.b_isinstance (by decide +kernel) (fa_cons (fv 0) (fa_cons (fe_ty (by rfl) B.b_tuple (by decide +kernel)) fa_nil))))) (fss_one (fs_ret fe_non)) fss_nil)
    (fss_cons (fs_set (i := 1) scbar_table.nd rfl (.inl rfl) fe_dnewT)
    (fss_cons (fs_for PassesOwn.never rfl (fi_any (fv 0)) (fg_name (i := 2) scbar_table.nd rfl (.inl rfl)) (fss_cons (fs_if (fw_pt (fw_or (ft_not (ft_val (fe_callD Dis_row hr (by rfl) (fa_cons (fv 2) (fa_cons fe_int fa_nil))))) (fw_or (ft_not (ft_val (fe_callD Dis_ints hr (by rfl) (fa_cons (fv 2) fa_nil)))) (fw_or1 (ft_in (hu_of hr) (fe_tup (fa_cons (fe_sub (hu_of hr) (fv 2) fe_int (fun _ _ => rfl)) (fa_cons (fe_sub (hu_of hr) (fv 2) fe_int (fun _ _ => rfl)) fa_nil))) (fv 1)))))) (fss_one (fs_ret fe_non)) fss_nil)
    (fss_one (fs_asg (fe_sub (hu_of hr) (fv 2) fe_int (fun _ _ => rfl)) (fg_sub (fv 1) (fe_tup (fa_cons (fe_sub (hu_of hr) (fv 2) fe_int (fun _ _ => rfl)) (fa_cons (fe_sub (hu_of hr) (fv 2) fe_int (fun _ _ => rfl)) fa_nil))) (setF (hu_of hr)))))))
    (fss_one (fs_ret (fv 1))))))

abbrev sis_closed : Stmt := topS 17
abbrev Nis_closed : List Str := ["spread", "table", "frame", "stamp", "gain", "then", "new", "rest"]
theorem scis_closed : FnScope ["spread", "table", "frame", "stamp", "gain", "then", "new", "rest"] ["spread", "table", "frame", "stamp"] (defScope sis_closed) := ⟨rfl, rfl, rfl, by decide +kernel, rfl, by decide +kernel, by decide +kernel⟩
noncomputable def mis_closed_b1 : Ms :=
  (mSeq (mSet 7 (mC (.int 0)))
  (mSeq (mIfS (mAnd (mNot (mTest (mMeth [(0, fSpread__is_over)] (mVar 0) (aCons (mVar 6) aNil)))) (mTest (mOp fLt (mVar 5) (mFld [(0, 4)] (mVar 0))))) (mSeq (mIfS (mTest (mOp fNotIn (mL fTup (aCons (mVar 5) (aCons (mVar 6) aNil))) (mVar 1))) (mRet (mC (.bl false))) mNext)
  (mSet 7 (mOp fSub_ (mVar 1) (mL fTup (aCons (mVar 5) (aCons (mVar 6) aNil)))))) mNext)
  (mIfS (mTest (mOp fGt (mOp fAdd (mVar 4) (mVar 7)) (mOp fSub_ (mVar 1) (mL fTup (aCons (mVar 2) (aCons (mVar 3) aNil)))))) (mRet (mC (.bl false))) mNext)))
noncomputable def mis_closed : Ms :=
  (mSeq (mIfS (mOr (mTest (mOp fLt (mVar 2) (mC (.int 0)))) (mOr (mTest (mOp fLt (mVar 3) (mUn fNeg (mC (.int 1))))) (mOr (mTest (mOp fGe (mVar 3) (mVar 2))) (mOr (mTest (mOp fGe (mVar 2) (mFld [(0, 4)] (mVar 0)))) (mTest (mMeth [(0, fSpread__is_over)] (mVar 0) (aCons (mVar 3) aNil))))))) (mRet (mC (.bl false))) mNext)
  (mSeq (mFor (mIt (mL ffollowers (aCons (mVar 0) (aCons (mVar 2) (aCons (mVar 3) aNil))))) (gTp 3 (gsCons (gN 4) (gsCons (gN 5) (gsCons (gN 6) gsNil))))
    mis_closed_b1)
  (mRet (mC (.bl true)))))
noncomputable def fis_closed : FnL := runB 4 8 mis_closed
theorem okis_closed {P : Program} {w : World} {K : PySem.W.Frag} {mg : Str → Option Value} {base : Heap} {fa : Addr} {fd : FuncData} (B : Bi mg) (F : FnP K "is_closed" sis_closed fa fd) (g : mg "is_closed" = some (.ref fa)) (DSpread__is_over : MetOk P w K mg base 1 0 "is_over" fSpread__is_over) (Dfollowers : DefOk P w K mg base 2 "followers" ["spread", "frame", "stamp"] ffollowers) (FSpread_frames : FldOk K 0 4 "frames") :
    DefOk P w K mg base 3 "is_closed" ["spread", "table", "frame", "stamp"] fis_closed :=
  okDef (N := ["spread", "table", "frame", "stamp", "gain", "then", "new", "rest"]) F g scis_closed (fun _ _ _ _ _ _ us hl => match us, hl with | [_, _, _, _], _ => rfl) fun cdv A outer s H E hr =>
    (fss_cons (fs_if (fw_pt (fw_or (ft_cmp op_ltF (fv 2) fe_int (nomark _)) (fw_or (ft_cmp op_ltF (fv 3) (fe_un un_negF fe_int) (nomark _)) (fw_or (ft_cmp op_geF (fv 3) (fv 2) (nomark _)) (fw_or (ft_cmp op_geF (fv 2) (fe_fld (fldTab_cons FSpread_frames fldTab_nil) (fv 0)) (nomark _)) (fw_or1 (ft_val (fe_meth (k := 1) (metTab_cons DSpread__is_over metTab_nil) hr (fv 0) (fa_cons (fv 3) fa_nil))))))))) (fss_one (fs_ret fe_bl)) fss_nil)
    (fss_cons (fs_for PassesOwn.never rfl (fi_any (fe_callD Dfollowers hr (by rfl) (fa_cons (fv 0) (fa_cons (fv 2) (fa_cons (fv 3) fa_nil))))) (fg_tup rfl (fgs_cons (fg_name (i := 4) scis_closed.nd rfl (.inl rfl)) (fgs_cons (fg_name (i := 5) scis_closed.nd rfl (.inl rfl)) (fgs_cons (fg_name (i := 6) scis_closed.nd rfl (.inl rfl)) fgs_nil))) (by rfl)) (fss_cons (fs_set (i := 7) scis_closed.nd rfl (.inl rfl) fe_int)
    (fss_cons (fs_if (fw_pt (fw_and (ft_not (ft_val (fe_meth (k := 1) (metTab_cons DSpread__is_over metTab_nil) hr (fv 0) (fa_cons (fv 6) fa_nil)))) (fw_and1 (ft_cmp op_ltF (fv 5) (fe_fld (fldTab_cons FSpread_frames fldTab_nil) (fv 0)) (nomark _))))) (fss_cons (fs_if (ft_notIn (hu_of hr) (fe_tup (fa_cons (fv 5) (fa_cons (fv 6) fa_nil))) (fv 1)) (fss_one (fs_ret fe_bl)) fss_nil)
    (fss_one (fs_set (i := 7) scis_closed.nd rfl (.inl rfl) (fe_sub (hu_of hr) (fv 1) (fe_tup (fa_cons (fv 5) (fa_cons (fv 6) fa_nil))) (fun _ _ => rfl))))) fss_nil)
    (fss_one (fs_if (ft_cmp op_gtF (fe_op op_addF (fv 4) (fv 7)) (fe_sub (hu_of hr) (fv 1) (fe_tup (fa_cons (fv 2) (fa_cons (fv 3) fa_nil))) (fun _ _ => rfl)) (nomark _)) (fss_one (fs_ret fe_bl)) fss_nil)))))
    (fss_one (fs_ret fe_bl))))

abbrev sjudge_bar : Stmt := topS 18
abbrev Njudge_bar : List Str := ["ticks", "d", "l", "lag", "total", "rows", "spread", "table", "frame", "stamp"]
theorem scjudge_bar : FnScope ["ticks", "d", "l", "lag", "total", "rows", "spread", "table", "frame", "stamp"] ["ticks", "d", "l", "lag", "total", "rows"] (defScope sjudge_bar) := ⟨rfl, rfl, rfl, by decide +kernel, rfl, by decide +kernel, by decide +kernel⟩
noncomputable def mjudge_bar_b1 : Ms :=
  (mIfS (mNot (mTest (mL fis_closed (aCons (mVar 6) (aCons (mVar 7) (aCons (mVar 8) (aCons (mVar 9) aNil))))))) (mRet (mC (.bl false))) mNext)
noncomputable def mjudge_bar : Ms :=
  (mSeq (mSet 6 (mMake 0 fSpread____init__ (aCons (mVar 0) (aCons (mVar 1) (aCons (mVar 2) (aCons (mVar 3) aNil))))))
  (mSeq (mSet 7 (mL fbar_table (aCons (mVar 5) aNil)))
  (mSeq (mIfS (mOr (mTest (mOp (fIs false) (mVar 7) (mC .non))) (mNot (mTest (mL fis_int (aCons (mVar 4) aNil))))) (mRet (mC (.bl false))) mNext)
  (mSeq (mIfS (mTest (mMeth [(0, fSpread__is_over)] (mVar 6) (aCons (mUn fNeg (mC (.int 1))) aNil))) (mRet (mAndV (mOp fGe (mVar 4) (mC (.int 0))) (mOp fEq (mL fLen (aCons (mVar 7) aNil)) (mC (.int 0))))) mNext)
  (mSeq (mIfS (mOr (mTest (mOp fNotIn (mL fTup (aCons (mC (.int 0)) (aCons (mUn fNeg (mC (.int 1))) aNil))) (mVar 7))) (mTest (mOp fGt (mOp fSub_ (mVar 7) (mL fTup (aCons (mC (.int 0)) (aCons (mUn fNeg (mC (.int 1))) aNil)))) (mVar 4)))) (mRet (mC (.bl false))) mNext)
  (mSeq (mLockS (mVar 7) (mFor (mIt (mVar 7)) (gTp 2 (gsCons (gN 8) (gsCons (gN 9) gsNil)))
    mjudge_bar_b1))
  (mRet (mC (.bl true)))))))))
noncomputable def fjudge_bar : FnL := runB 6 10 mjudge_bar
theorem okjudge_bar {P : Program} {w : World} {K : PySem.W.Frag} {mg : Str → Option Value} {base : Heap} {fa : Addr} {fd : FuncData} (B : Bi mg) (F : FnP K "judge_bar" sjudge_bar fa fd) (g : mg "judge_bar" = some (.ref fa)) (DSpread____init__ : MkOk P w K mg base 3 0 "Spread" fSpread____init__) (Dbar_table : DefOk P w K mg base 3 "bar_table" ["rows"] fbar_table) (Dis_int : DefOk P w K mg base 1 "is_int" ["thing"] fis_int) (DSpread__is_over : MetOk P w K mg base 1 0 "is_over" fSpread__is_over) (Dis_closed : DefOk P w K mg base 3 "is_closed" ["spread", "table", "frame", "stamp"] fis_closed) :
    DefOk P w K mg base 5 "judge_bar" ["ticks", "d", "l", "lag", "total", "rows"] fjudge_bar :=
  okDef (N := ["ticks", "d", "l", "lag", "total", "rows", "spread", "table", "frame", "stamp"]) F g scjudge_bar (fun _ _ _ _ _ _ us hl => match us, hl with | [_, _, _, _, _, _], _ => rfl) fun cdv A outer s H E hr =>
    (fss_cons (fs_set (i := 6) scjudge_bar.nd rfl (.inl rfl) (fe_make DSpread____init__ hr (by rfl) (fa_cons (fv 0) (fa_cons (fv 1) (fa_cons (fv 2) (fa_cons (fv 3) fa_nil))))))
    (fss_cons (fs_set (i := 7) scjudge_bar.nd rfl (.inl rfl) (fe_callD Dbar_table hr (by rfl) (fa_cons (fv 5) fa_nil)))
    (fss_cons (fs_if (fw_pt (fw_or (ft_cmp op_isF (fv 7) fe_non (nomark _)) (fw_or1 (ft_not (ft_val (fe_callD Dis_int hr (by rfl) (fa_cons (fv 4) fa_nil))))))) (fss_one (fs_ret fe_bl)) fss_nil)
    (fss_cons (fs_if (ft_val (fe_meth (k := 1) (metTab_cons DSpread__is_over metTab_nil) hr (fv 6) (fa_cons (fe_un un_negF fe_int) fa_nil))) (fss_one (fs_ret (fe_and (fe_cmp op_geF (fv 4) fe_int (nomark _)) (fe_one (fe_cmp (op_eqF hr.units) (fe_callB call_lenF (by rfl) B.b_len (by decide +kernel) (fa_cons (fv 7) fa_nil)) fe_int (nomark _)))))) fss_nil)
    (fss_cons (fs_if (fw_pt (fw_or (ft_notIn (hu_of hr) (fe_tup (fa_cons fe_int (fa_cons (fe_un un_negF fe_int) fa_nil))) (fv 7)) (fw_or1 (ft_cmp op_gtF (fe_sub (hu_of hr) (fv 7) (fe_tup (fa_cons fe_int (fa_cons (fe_un un_negF fe_int) fa_nil))) (fun _ _ => rfl)) (fv 4) (nomark _))))) (fss_one (fs_ret fe_bl)) fss_nil)
    (fss_cons (fs_lock (mVar 7) (fs_for PassesOwn.never rfl (fi_any (fv 7)) (fg_tup rfl (fgs_cons (fg_name (i := 8) scjudge_bar.nd rfl (.inl rfl)) (fgs_cons (fg_name (i := 9) scjudge_bar.nd rfl (.inl rfl)) fgs_nil)) (by rfl)) (fss_one (fs_if (ft_not (ft_val (fe_callD Dis_closed hr (by rfl) (fa_cons (fv 6) (fa_cons (fv 7) (fa_cons (fv 8) (fa_cons (fv 9) fa_nil))))))) (fss_one (fs_ret fe_bl)) fss_nil))))
    (fss_one (fs_ret fe_bl))))))))

abbrev s_law_draw : Stmt := topS 21
abbrev N_law_draw : List Str := ["d", "many", "found", "size", "cell"]
theorem sc_law_draw : FnScope ["d", "many", "found", "size", "cell"] ["d", "many"] (defScope s_law_draw) := ⟨rfl, rfl, rfl, by decide +kernel, rfl, by decide +kernel, by decide +kernel⟩
noncomputable def m_law_draw : Ms :=
  (mSeq (mIfS (mTest (mOp fGt (mOp fSub_ (mVar 0) (mC (.int 2))) (mC (.int 0)))) (mSeq (mSet 2 (mOp fSub_ (mVar 0) (mC (.int 2))))
  (mSeq (mAsg (mOp fDiv (mVar 2) (mVar 1)) (gSb fSet_ (mVar 0) (mC (.int 2))))
  (mRet (mOp fMod (mL fInt (aCons (mVar 2) aNil)) (mVar 1))))) mNext)
  (mSeq (mSet 3 (mC (.int 0)))
  (mSeq (mIfS (mTest (mOp fLt (mOp fSub_ (mVar 0) (mC (.int 1))) (mL fLen (aCons (mOp fSub_ (mVar 0) (mC (.int 0))) aNil)))) (mSeq (mSet 4 (mOp fSub_ (mOp fSub_ (mVar 0) (mC (.int 0))) (mOp fSub_ (mVar 0) (mC (.int 1)))))
  (mSet 3 (mOp fAdd (mOp fMul (mC (.int 2)) (mL fAbs (aCons (mVar 4) aNil))) (mL fInt (aCons (mOp fLt (mVar 4) (mC (.int 0))) aNil))))) mNext)
  (mSeq (mAugS fGet_ fIpAdd fSet_ (mVar 0) (mC (.int 1)) (mC (.int 1)))
  (mSeq (mIfS (mTest (mOp fGe (mVar 3) (mOp fMul (mC (.int 2)) (mOp fPow (mC (.int 10)) (mC (.int 18)))))) (mSeq (mSet 2 (mOp fMod (mL fInt (aCons (mOp fDiv (mVar 3) (mC (.int 2))) aNil)) (mOp fShl (mC (.int 1)) (mC (.int 6000)))))
  (mSeq (mAsg (mOp fDiv (mVar 2) (mVar 1)) (gSb fSet_ (mVar 0) (mC (.int 2))))
  (mRet (mOp fMod (mL fInt (aCons (mVar 2) aNil)) (mVar 1))))) mNext)
  (mSeq (mAsg (mOp fMod (mL fInt (aCons (mOp fAdd (mOp fAdd (mOp fAdd (mOp fMul (mOp fSub_ (mVar 0) (mC (.int 3))) (mC (.int 48271))) (mOp fMul (mOp fMod (mL fInt (aCons (mVar 3) aNil)) (mC (.int 2147483629))) (mC (.int 16807)))) (mOp fMul (mOp fSub_ (mVar 0) (mC (.int 1))) (mC (.int 69621)))) (mC (.int 13))) aNil)) (mC (.int 2147483647))) (gSb fSet_ (mVar 0) (mC (.int 3))))
  (mRet (mOp fMod (mL fInt (aCons (mOp fDiv (mOp fSub_ (mVar 0) (mC (.int 3))) (mC (.int 16))) aNil)) (mVar 1)))))))))
noncomputable def f_law_draw : FnL := runB 2 5 m_law_draw
theorem ok_law_draw {P : Program} {w : World} {K : PySem.W.Frag} {mg : Str → Option Value} {base : Heap} {fa : Addr} {fd : FuncData} (B : Bi mg) (F : FnP K "_law_draw" s_law_draw fa fd) (g : mg "_law_draw" = some (.ref fa)) :
    DefOk P w K mg base 1 "_law_draw" ["d", "many"] f_law_draw :=
  okDef (N := ["d", "many", "found", "size", "cell"]) F g sc_law_draw (fun _ _ _ _ _ _ us hl => match us, hl with | [_, _], _ => rfl) fun cdv A outer s H E hr =>
    (fss_cons (fs_if (ft_cmp op_gtF (fe_sub (hu_of hr) (fv 0) fe_int (fun _ _ => rfl)) fe_int (nomark _)) (fss_cons (fs_set (i := 2) sc_law_draw.nd rfl (.inl rfl) (fe_sub (hu_of hr) (fv 0) fe_int (fun _ _ => rfl)))
    (fss_cons (fs_asg (fe_op op_divF (fv 2) (fv 1)) (fg_sub (fv 0) fe_int (setF (hu_of hr))))
    (fss_one (fs_ret (fe_op op_modF (fe_callTy call_intF (by rfl) B.b_int (by decide +kernel) (fa_cons (fv 2) fa_nil)) (fv 1)))))) fss_nil)
    (fss_cons (fs_set (i := 3) sc_law_draw.nd rfl (.inl rfl) fe_int)
    (fss_cons (fs_if (ft_cmp op_ltF (fe_sub (hu_of hr) (fv 0) fe_int (fun _ _ => rfl)) (fe_callB call_lenF (by rfl) B.b_len (by decide +kernel) (fa_cons (fe_sub (hu_of hr) (fv 0) fe_int (fun _ _ => rfl)) fa_nil)) (nomark _)) (fss_cons (fs_set (i := 4) sc_law_draw.nd rfl (.inl rfl) (fe_sub (hu_of hr) (fe_sub (hu_of hr) (fv 0) fe_int (fun _ _ => rfl)) (fe_sub (hu_of hr) (fv 0) fe_int (fun _ _ => rfl)) (fun _ _ => rfl)))
    (fss_one (fs_set (i := 3) sc_law_draw.nd rfl (.inl rfl) (fe_op op_addF (fe_op op_mulF fe_int (fe_callB call_absF (by rfl) B.b_abs (by decide +kernel) (fa_cons (fv 4) fa_nil))) (fe_callTy call_intF (by rfl) B.b_int (by decide +kernel) (fa_cons (fe_cmp op_ltF (fv 4) fe_int (nomark _)) fa_nil)))))) fss_nil)
    (fss_cons (fs_augS (fv 0) fe_int (getF (hu_of hr)) fe_int ip_addF (setF (hu_of hr)))
    (fss_cons (fs_if (ft_cmp op_geF (fv 3) (fe_op op_mulF fe_int (fe_op op_powF fe_int fe_int)) (nomark _)) (fss_cons (fs_set (i := 2) sc_law_draw.nd rfl (.inl rfl) (fe_op op_modF (fe_callTy call_intF (by rfl) B.b_int (by decide +kernel) (fa_cons (fe_op op_divF (fv 3) fe_int) fa_nil)) (fe_op op_shlF fe_int fe_int)))
    (fss_cons (fs_asg (fe_op op_divF (fv 2) (fv 1)) (fg_sub (fv 0) fe_int (setF (hu_of hr))))
    (fss_one (fs_ret (fe_op op_modF (fe_callTy call_intF (by rfl) B.b_int (by decide +kernel) (fa_cons (fv 2) fa_nil)) (fv 1)))))) fss_nil)
    (fss_cons (fs_asg (fe_op op_modF (fe_callTy call_intF (by rfl) B.b_int (by decide +kernel) (fa_cons (fe_op op_addF (fe_op op_addF (fe_op op_addF (fe_op op_mulF (fe_sub (hu_of hr) (fv 0) fe_int (fun _ _ => rfl)) fe_int) (fe_op op_mulF (fe_op op_modF (fe_callTy call_intF (by rfl) B.b_int (by decide +kernel) (fa_cons (fv 3) fa_nil)) fe_int) fe_int)) (fe_op op_mulF (fe_sub (hu_of hr) (fv 0) fe_int (fun _ _ => rfl)) fe_int)) fe_int) fa_nil)) fe_int) (fg_sub (fv 0) fe_int (setF (hu_of hr))))
    (fss_one (fs_ret (fe_op op_modF (fe_callTy call_intF (by rfl) B.b_int (by decide +kernel) (fa_cons (fe_op op_divF (fe_sub (hu_of hr) (fv 0) fe_int (fun _ _ => rfl)) fe_int) fa_nil)) (fv 1))))))))))

abbrev s_law_pick : Stmt := topS 22
abbrev N_law_pick : List Str := ["d", "row"]
theorem sc_law_pick : FnScope ["d", "row"] ["d", "row"] (defScope s_law_pick) := ⟨rfl, rfl, rfl, by decide +kernel, rfl, by decide +kernel, by decide +kernel⟩
noncomputable def m_law_pick : Ms :=
  (mRet (mOp fSub_ (mVar 1) (mL f_law_draw (aCons (mVar 0) (aCons (mL fLen (aCons (mVar 1) aNil)) aNil)))))
noncomputable def f_law_pick : FnL := runB 2 2 m_law_pick
theorem ok_law_pick {P : Program} {w : World} {K : PySem.W.Frag} {mg : Str → Option Value} {base : Heap} {fa : Addr} {fd : FuncData} (B : Bi mg) (F : FnP K "_law_pick" s_law_pick fa fd) (g : mg "_law_pick" = some (.ref fa)) (D_law_draw : DefOk P w K mg base 1 "_law_draw" ["d", "many"] f_law_draw) :
    DefOk P w K mg base 2 "_law_pick" ["d", "row"] f_law_pick :=
  okDef (N := ["d", "row"]) F g sc_law_pick (fun _ _ _ _ _ _ us hl => match us, hl with | [_, _], _ => rfl) fun cdv A outer s H E hr =>
    (fss_one (fs_ret (fe_sub (hu_of hr) (fv 1) (fe_callD D_law_draw hr (by rfl) (fa_cons (fv 0) (fa_cons (fe_callB call_lenF (by rfl) B.b_len (by decide +kernel) (fa_cons (fv 1) fa_nil)) fa_nil))) (fun _ _ => rfl))))

abbrev s_law_rare : Stmt := topS 23
abbrev N_law_rare : List Str := ["d", "many"]
theorem sc_law_rare : FnScope ["d", "many"] ["d", "many"] (defScope s_law_rare) := ⟨rfl, rfl, rfl, by decide +kernel, rfl, by decide +kernel, by decide +kernel⟩
noncomputable def m_law_rare : Ms :=
  (mRet (mOp fEq (mL f_law_draw (aCons (mVar 0) (aCons (mVar 1) aNil))) (mOp fDiv (mVar 1) (mC (.int 2)))))
noncomputable def f_law_rare : FnL := runB 2 2 m_law_rare
theorem ok_law_rare {P : Program} {w : World} {K : PySem.W.Frag} {mg : Str → Option Value} {base : Heap} {fa : Addr} {fd : FuncData} (B : Bi mg) (F : FnP K "_law_rare" s_law_rare fa fd) (g : mg "_law_rare" = some (.ref fa)) (D_law_draw : DefOk P w K mg base 1 "_law_draw" ["d", "many"] f_law_draw) :
    DefOk P w K mg base 2 "_law_rare" ["d", "many"] f_law_rare :=
  okDef (N := ["d", "many"]) F g sc_law_rare (fun _ _ _ _ _ _ us hl => match us, hl with | [_, _], _ => rfl) fun cdv A outer s H E hr =>
    (fss_one (fs_ret (fe_cmp (op_eqF hr.units) (fe_callD D_law_draw hr (by rfl) (fa_cons (fv 0) (fa_cons (fv 1) fa_nil))) (fe_op op_divF (fv 1) fe_int) (nomark _))))

abbrev s_law_shuffled : Stmt := topS 24
abbrev N_law_shuffled : List Str := ["d", "row", "left", "found", "k"]
theorem sc_law_shuffled : FnScope ["d", "row", "left", "found", "k"] ["d", "row"] (defScope s_law_shuffled) := ⟨rfl, rfl, rfl, by decide +kernel, rfl, by decide +kernel, by decide +kernel⟩
noncomputable def m_law_shuffled_b1 : Ms :=
  (mDrop (mBM "list" fApp (mVar 3) (aCons (mBM "list" fPop (mVar 2) (aCons (mL f_law_draw (aCons (mVar 0) (aCons (mL fLen (aCons (mVar 2) aNil)) aNil))) aNil)) aNil)))
noncomputable def m_law_shuffled : Ms :=
  (mSeq (mSet 2 (mL fLstOf (aCons (mVar 1) aNil)))
  (mSeq (mSet 3 (mL fLst aNil))
  (mSeq (mFor (iRg fRg1 (aCons (mL fLen (aCons (mVar 2) aNil)) aNil)) (gN 4)
    m_law_shuffled_b1)
  (mRet (mVar 3)))))
noncomputable def f_law_shuffled : FnL := runB 2 5 m_law_shuffled
theorem ok_law_shuffled {P : Program} {w : World} {K : PySem.W.Frag} {mg : Str → Option Value} {base : Heap} {fa : Addr} {fd : FuncData} (B : Bi mg) (F : FnP K "_law_shuffled" s_law_shuffled fa fd) (g : mg "_law_shuffled" = some (.ref fa)) (D_law_draw : DefOk P w K mg base 1 "_law_draw" ["d", "many"] f_law_draw) :
    DefOk P w K mg base 2 "_law_shuffled" ["d", "row"] f_law_shuffled :=
  okDef (N := ["d", "row", "left", "found", "k"]) F g sc_law_shuffled (fun _ _ _ _ _ _ us hl => match us, hl with | [_, _], _ => rfl) fun cdv A outer s H E hr =>
    (fss_cons (fs_set (i := 2) sc_law_shuffled.nd rfl (.inl rfl) (fe_callTy (call_lstF rfl) (by rfl) B.b_list (by decide +kernel) (fa_cons (fv 1) fa_nil)))
    (fss_cons (fs_set (i := 3) sc_law_shuffled.nd rfl (.inl rfl) (fe_lst fa_nil))
    (fss_cons (fs_for PassesOwn.never rfl (fi_range1 (by rfl) B.b_range (fa_cons (fe_callB call_lenF (by rfl) B.b_len (by decide +kernel) (fa_cons (fv 2) fa_nil)) fa_nil)) (fg_name (i := 4) sc_law_shuffled.nd rfl (.inl rfl)) (fss_one (fs_expr (fe_bm PySem.F.plainAttrs_list PySem.F.slot_list_append PySem.F.type_list_append mt_appF (fv 3) (fa_cons (fe_bm PySem.F.plainAttrs_list PySem.F.slot_list_pop PySem.F.type_list_pop mt_popF (fv 2) (fa_cons (fe_callD D_law_draw hr (by rfl) (fa_cons (fv 0) (fa_cons (fe_callB call_lenF (by rfl) B.b_len (by decide +kernel) (fa_cons (fv 2) fa_nil)) fa_nil))) fa_nil)) fa_nil)))))
    (fss_one (fs_ret (fv 3))))))

abbrev s_law_is_int : Stmt := topS 25
abbrev N_law_is_int : List Str := ["thing"]
theorem sc_law_is_int : FnScope ["thing"] ["thing"] (defScope s_law_is_int) := ⟨rfl, rfl, rfl, by decide +kernel, rfl, by decide +kernel, by decide +kernel⟩
noncomputable def m_law_is_int : Ms :=
  (mRet (mAndV (mL fIsi (aCons (mVar 0) (aCons (mC (.ty "int")) aNil))) (mNotV (mL fIsi (aCons (mVar 0) (aCons (mC (.ty "bool")) aNil))))))
noncomputable def f_law_is_int : FnL := runB 1 1 m_law_is_int
theorem ok_law_is_int {P : Program} {w : World} {K : PySem.W.Frag} {mg : Str → Option Value} {base : Heap} {fa : Addr} {fd : FuncData} (B : Bi mg) (F : FnP K "_law_is_int" s_law_is_int fa fd) (g : mg "_law_is_int" = some (.ref fa)) :
    DefOk P w K mg base 1 "_law_is_int" ["thing"] f_law_is_int :=
  okDef (N := ["thing"]) F g sc_law_is_int (fun _ _ _ _ _ _ us hl => match us, hl with | [_], _ => rfl) fun cdv A outer s H E hr =>
    (fss_one (fs_ret (fe_and (fe_callB call_isiF (by rfl) B.b_isinstance (by decide +kernel) (fa_cons (fv 0) (fa_cons (fe_ty (by rfl) B.b_int (by decide +kernel)) fa_nil))) (fe_one (fe_not (fe_callB call_isiF (by rfl) B.b_isinstance (by decide +kernel) (fa_cons (fv 0) (fa_cons (fe_ty (by rfl) B.b_bool (by decide +kernel)) fa_nil))))))))

abbrev s_law_is_ints : Stmt := topS 26
abbrev N_law_is_ints : List Str := ["row", "part"]
theorem sc_law_is_ints : FnScope ["row", "part"] ["row"] (defScope s_law_is_ints) := ⟨rfl, rfl, rfl, by decide +kernel, rfl, by decide +kernel, by decide +kernel⟩
noncomputable def m_law_is_ints : Ms :=
  (mRet (mAndV (mL fIsi (aCons (mVar 0) (aCons (mC (.ty "tuple")) aNil))) (mL fAll (aCons (mComp (mIt (mVar 0)) (gN 1) mYes (mL f_law_is_int (aCons (mVar 1) aNil)) [1]) aNil))))
noncomputable def f_law_is_ints : FnL := runB 1 2 m_law_is_ints
theorem ok_law_is_ints {P : Program} {w : World} {K : PySem.W.Frag} {mg : Str → Option Value} {base : Heap} {fa : Addr} {fd : FuncData} (B : Bi mg) (F : FnP K "_law_is_ints" s_law_is_ints fa fd) (g : mg "_law_is_ints" = some (.ref fa)) (D_law_is_int : DefOk P w K mg base 1 "_law_is_int" ["thing"] f_law_is_int) :
    DefOk P w K mg base 2 "_law_is_ints" ["row"] f_law_is_ints :=
  okDef (N := ["row", "part"]) F g sc_law_is_ints (fun _ _ _ _ _ _ us hl => match us, hl with | [_], _ => rfl) fun cdv A outer s H E hr =>
    (fss_one (fs_ret (fe_and (fe_callB call_isiF (by rfl) B.b_isinstance (by decide +kernel) (fa_cons (fv 0) (fa_cons (fe_ty (by rfl) B.b_tuple (by decide +kernel)) fa_nil))) (fe_one (fe_callB (call_allF rfl) (by rfl) B.b_all (by decide +kernel) (fa_cons (fe_lc (own := [("part", 1)]) (g := (gN 1)) (t := mYes) rfl sc_law_is_ints.nd (fi_any (fv 0)) (blkOk_by (N := N_law_is_ints) (sc := defScope s_law_is_ints) (by decide +kernel)) (fun _ _ _ _ _ => (fg_name (i := 1) sc_law_is_ints.nd rfl (.inl rfl))) (fun _ _ _ _ _ => fts_nil) (fun _ _ _ _ _ => (fe_callD D_law_is_int hr (by rfl) (fa_cons (fv 1) fa_nil)))) fa_nil))))))

abbrev s_law_wait : Stmt := topS 27
abbrev N_law_wait : List Str := ["late", "lost"]
theorem sc_law_wait : FnScope ["late", "lost"] ["late", "lost"] (defScope s_law_wait) := ⟨rfl, rfl, rfl, by decide +kernel, rfl, by decide +kernel, by decide +kernel⟩
noncomputable def m_law_wait : Ms :=
  (mRet (mOp fAdd (mOp fMul (mC (.int 3)) (mOp fAdd (mVar 0) (mVar 1))) (mC (.int 2))))
noncomputable def f_law_wait : FnL := runB 2 2 m_law_wait
theorem ok_law_wait {P : Program} {w : World} {K : PySem.W.Frag} {mg : Str → Option Value} {base : Heap} {fa : Addr} {fd : FuncData} (B : Bi mg) (F : FnP K "_law_wait" s_law_wait fa fd) (g : mg "_law_wait" = some (.ref fa)) :
    DefOk P w K mg base 1 "_law_wait" ["late", "lost"] f_law_wait :=
  okDef (N := ["late", "lost"]) F g sc_law_wait (fun _ _ _ _ _ _ us hl => match us, hl with | [_, _], _ => rfl) fun cdv A outer s H E hr =>
    (fss_one (fs_ret (fe_op op_addF (fe_op op_mulF fe_int (fe_op op_addF (fv 0) (fv 1))) fe_int)))

abbrev s_law_frames : Stmt := topS 28
abbrev N_law_frames : List Str := ["ticks", "late", "lost"]
theorem sc_law_frames : FnScope ["ticks", "late", "lost"] ["ticks", "late", "lost"] (defScope s_law_frames) := ⟨rfl, rfl, rfl, by decide +kernel, rfl, by decide +kernel, by decide +kernel⟩
noncomputable def m_law_frames : Ms :=
  (mRet (mOp fAdd (mOp fAdd (mVar 0) (mL f_law_wait (aCons (mVar 1) (aCons (mVar 2) aNil)))) (mC (.int 1))))
noncomputable def f_law_frames : FnL := runB 3 3 m_law_frames
theorem ok_law_frames {P : Program} {w : World} {K : PySem.W.Frag} {mg : Str → Option Value} {base : Heap} {fa : Addr} {fd : FuncData} (B : Bi mg) (F : FnP K "_law_frames" s_law_frames fa fd) (g : mg "_law_frames" = some (.ref fa)) (D_law_wait : DefOk P w K mg base 1 "_law_wait" ["late", "lost"] f_law_wait) :
    DefOk P w K mg base 2 "_law_frames" ["ticks", "late", "lost"] f_law_frames :=
  okDef (N := ["ticks", "late", "lost"]) F g sc_law_frames (fun _ _ _ _ _ _ us hl => match us, hl with | [_, _, _], _ => rfl) fun cdv A outer s H E hr =>
    (fss_one (fs_ret (fe_op op_addF (fe_op op_addF (fv 0) (fe_callD D_law_wait hr (by rfl) (fa_cons (fv 1) (fa_cons (fv 2) fa_nil)))) fe_int)))

abbrev s_law_ways : Stmt := topS 29
abbrev N_law_ways : List Str := ["ticks", "late", "lost", "lag", "frame", "stamp", "found", "new"]
theorem sc_law_ways : FnScope ["ticks", "late", "lost", "lag", "frame", "stamp", "found", "new"] ["ticks", "late", "lost", "lag", "frame", "stamp"] (defScope s_law_ways) := ⟨rfl, rfl, rfl, by decide +kernel, rfl, by decide +kernel, by decide +kernel⟩
noncomputable def m_law_ways_b1 : Ms :=
  (mDrop (mBM "list" fApp (mVar 6) (aCons (mL fTup (aCons (mL fMax2 (aCons (mC (.int 0)) (aCons (mOp fSub (mOp fSub (mOp fSub (mL fMin2 (aCons (mVar 4) (aCons (mVar 0) aNil))) (mVar 5)) (mC (.int 1))) (mVar 3)) aNil))) (aCons (mVar 7) aNil))) aNil)))
noncomputable def m_law_ways : Ms :=
  (mSeq (mSet 6 (mL fLst aNil))
  (mSeq (mIfS (mTest (mOp fLe (mVar 4) (mOp fAdd (mOp fAdd (mVar 5) (mVar 1)) (mVar 2)))) (mDrop (mBM "list" fApp (mVar 6) (aCons (mL fTup (aCons (mC (.int 0)) (aCons (mVar 5) aNil))) aNil))) mNext)
  (mSeq (mFor (iRg fRg2 (aCons (mL fMax2 (aCons (mOp fAdd (mVar 5) (mC (.int 1))) (aCons (mOp fSub (mVar 4) (mVar 1)) aNil))) (aCons (mOp fAdd (mVar 4) (mC (.int 1))) aNil))) (gN 7)
    m_law_ways_b1)
  (mRet (mVar 6)))))
noncomputable def f_law_ways : FnL := runB 6 8 m_law_ways
theorem ok_law_ways {P : Program} {w : World} {K : PySem.W.Frag} {mg : Str → Option Value} {base : Heap} {fa : Addr} {fd : FuncData} (B : Bi mg) (F : FnP K "_law_ways" s_law_ways fa fd) (g : mg "_law_ways" = some (.ref fa)) :
    DefOk P w K mg base 1 "_law_ways" ["ticks", "late", "lost", "lag", "frame", "stamp"] f_law_ways :=
  okDef (N := ["ticks", "late", "lost", "lag", "frame", "stamp", "found", "new"]) F g sc_law_ways (fun _ _ _ _ _ _ us hl => match us, hl with | [_, _, _, _, _, _], _ => rfl) fun cdv A outer s H E hr =>
    (fss_cons (fs_set (i := 6) sc_law_ways.nd rfl (.inl rfl) (fe_lst fa_nil))
    (fss_cons (fs_if (ft_cmp op_leF (fv 4) (fe_op op_addF (fe_op op_addF (fv 5) (fv 1)) (fv 2)) (nomark _)) (fss_one (fs_expr (fe_bm PySem.F.plainAttrs_list PySem.F.slot_list_append PySem.F.type_list_append mt_appF (fv 6) (fa_cons (fe_tup (fa_cons fe_int (fa_cons (fv 5) fa_nil))) fa_nil)))) fss_nil)
    (fss_cons (fs_for PassesOwn.never rfl (fi_range2 (by rfl) B.b_range (fa_cons (fe_callB (call_max2F rfl) (by rfl) B.b_max (by decide +kernel) (fa_cons (fe_op op_addF (fv 5) fe_int) (fa_cons (fe_op op_subF (fv 4) (fv 1)) fa_nil))) (fa_cons (fe_op op_addF (fv 4) fe_int) fa_nil))) (fg_name (i := 7) sc_law_ways.nd rfl (.inl rfl)) (fss_one (fs_expr (fe_bm PySem.F.plainAttrs_list PySem.F.slot_list_append PySem.F.type_list_append mt_appF (fv 6) (fa_cons (fe_tup (fa_cons (fe_callB (call_max2F rfl) (by rfl) B.b_max (by decide +kernel) (fa_cons fe_int (fa_cons (fe_op op_subF (fe_op op_subF (fe_op op_subF (fe_callB (call_min2F rfl) (by rfl) B.b_min (by decide +kernel) (fa_cons (fv 4) (fa_cons (fv 0) fa_nil))) (fv 5)) fe_int) (fv 3)) fa_nil))) (fa_cons (fv 7) fa_nil))) fa_nil)))))
    (fss_one (fs_ret (fv 6))))))

abbrev s_law_left : Stmt := topS 30
abbrev N_law_left : List Str := ["table", "ticks", "lag", "frame", "stamp"]
theorem sc_law_left : FnScope ["table", "ticks", "lag", "frame", "stamp"] ["table", "ticks", "lag", "frame", "stamp"] (defScope s_law_left) := ⟨rfl, rfl, rfl, by decide +kernel, rfl, by decide +kernel, by decide +kernel⟩
noncomputable def m_law_left : Ms :=
  (mSeq (mIfS (mTest (mOp fGe (mOp fAdd (mVar 4) (mVar 2)) (mOp fSub (mVar 1) (mC (.int 1))))) (mRet (mC (.int 0))) mNext)
  (mRet (mOp fSub_ (mVar 0) (mL fTup (aCons (mVar 3) (aCons (mVar 4) aNil))))))
noncomputable def f_law_left : FnL := runB 5 5 m_law_left
theorem ok_law_left {P : Program} {w : World} {K : PySem.W.Frag} {mg : Str → Option Value} {base : Heap} {fa : Addr} {fd : FuncData} (B : Bi mg) (F : FnP K "_law_left" s_law_left fa fd) (g : mg "_law_left" = some (.ref fa)) :
    DefOk P w K mg base 1 "_law_left" ["table", "ticks", "lag", "frame", "stamp"] f_law_left :=
  okDef (N := ["table", "ticks", "lag", "frame", "stamp"]) F g sc_law_left (fun _ _ _ _ _ _ us hl => match us, hl with | [_, _, _, _, _], _ => rfl) fun cdv A outer s H E hr =>
    (fss_cons (fs_if (ft_cmp op_geF (fe_op op_addF (fv 4) (fv 2)) (fe_op op_subF (fv 1) fe_int) (nomark _)) (fss_one (fs_ret fe_int)) fss_nil)
    (fss_one (fs_ret (fe_sub (hu_of hr) (fv 0) (fe_tup (fa_cons (fv 3) (fa_cons (fv 4) fa_nil))) (fun _ _ => rfl)))))

abbrev s_law_totals : Stmt := topS 31
abbrev N_law_totals : List Str := ["ticks", "late", "lost", "lag", "table", "back", "stamp", "turn", "frame", "best", "gain", "new"]
theorem sc_law_totals : FnScope ["ticks", "late", "lost", "lag", "table", "back", "stamp", "turn", "frame", "best", "gain", "new"] ["ticks", "late", "lost", "lag"] (defScope s_law_totals) := ⟨rfl, rfl, rfl, by decide +kernel, rfl, by decide +kernel, by decide +kernel⟩
noncomputable def m_law_totals_b1 : Ms :=
  (mSet 9 (mL fMax2 (aCons (mVar 9) (aCons (mOp fAdd (mVar 10) (mL f_law_left (aCons (mVar 4) (aCons (mVar 0) (aCons (mVar 3) (aCons (mOp fAdd (mVar 8) (mC (.int 1))) (aCons (mVar 11) aNil))))))) aNil))))
noncomputable def m_law_totals_b2 : Ms :=
  (mSeq (mSet 8 (mOp fSub (mOp fAdd (mOp fAdd (mOp fAdd (mVar 6) (mC (.int 1))) (mVar 1)) (mVar 2)) (mVar 7)))
  (mSeq (mSet 9 (mC (.int 0)))
  (mSeq (mFor (mIt (mL f_law_ways (aCons (mVar 0) (aCons (mVar 1) (aCons (mVar 2) (aCons (mVar 3) (aCons (mVar 8) (aCons (mVar 6) aNil)))))))) (gTp 2 (gsCons (gN 10) (gsCons (gN 11) gsNil)))
    m_law_totals_b1)
  (mAsg (mVar 9) (gSb fSet_ (mVar 4) (mL fTup (aCons (mVar 8) (aCons (mVar 6) aNil))))))))
noncomputable def m_law_totals_b3 : Ms :=
  (mSeq (mSet 6 (mOp fSub (mOp fSub (mOp fSub (mVar 0) (mC (.int 2))) (mVar 3)) (mVar 5)))
  (mFor (iRg fRg1 (aCons (mOp fAdd (mOp fAdd (mVar 1) (mVar 2)) (mC (.int 1))) aNil)) (gN 7)
    m_law_totals_b2))
noncomputable def m_law_totals : Ms :=
  (mSeq (mSet 4 mDnewT)
  (mSeq (mFor (iRg fRg1 (aCons (mOp fSub (mVar 0) (mVar 3)) aNil)) (gN 5)
    m_law_totals_b3)
  (mRet (mVar 4))))
noncomputable def f_law_totals : FnL := runB 4 12 m_law_totals
theorem ok_law_totals {P : Program} {w : World} {K : PySem.W.Frag} {mg : Str → Option Value} {base : Heap} {fa : Addr} {fd : FuncData} (B : Bi mg) (F : FnP K "_law_totals" s_law_totals fa fd) (g : mg "_law_totals" = some (.ref fa)) (D_law_ways : DefOk P w K mg base 1 "_law_ways" ["ticks", "late", "lost", "lag", "frame", "stamp"] f_law_ways) (D_law_left : DefOk P w K mg base 1 "_law_left" ["table", "ticks", "lag", "frame", "stamp"] f_law_left) :
    DefOk P w K mg base 2 "_law_totals" ["ticks", "late", "lost", "lag"] f_law_totals :=
  okDef (N := ["ticks", "late", "lost", "lag", "table", "back", "stamp", "turn", "frame", "best", "gain", "new"]) F g sc_law_totals (fun _ _ _ _ _ _ us hl => match us, hl with | [_, _, _, _], _ => rfl) fun cdv A outer s H E hr =>
    (fss_cons (fs_set (i := 4) sc_law_totals.nd rfl (.inl rfl) fe_dnewT)
    (fss_cons (fs_for PassesOwn.never rfl (fi_range1 (by rfl) B.b_range (fa_cons (fe_op op_subF (fv 0) (fv 3)) fa_nil)) (fg_name (i := 5) sc_law_totals.nd rfl (.inl rfl)) (fss_cons (fs_set (i := 6) sc_law_totals.nd rfl (.inl rfl) (fe_op op_subF (fe_op op_subF (fe_op op_subF (fv 0) fe_int) (fv 3)) (fv 5)))
    (fss_one (fs_for PassesOwn.never rfl (fi_range1 (by rfl) B.b_range (fa_cons (fe_op op_addF (fe_op op_addF (fv 1) (fv 2)) fe_int) fa_nil)) (fg_name (i := 7) sc_law_totals.nd rfl (.inl rfl)) (fss_cons (fs_set (i := 8) sc_law_totals.nd rfl (.inl rfl) (fe_op op_subF (fe_op op_addF (fe_op op_addF (fe_op op_addF (fv 6) fe_int) (fv 1)) (fv 2)) (fv 7)))
    (fss_cons (fs_set (i := 9) sc_law_totals.nd rfl (.inl rfl) fe_int)
    (fss_cons (fs_for PassesOwn.never rfl (fi_any (fe_callD D_law_ways hr (by rfl) (fa_cons (fv 0) (fa_cons (fv 1) (fa_cons (fv 2) (fa_cons (fv 3) (fa_cons (fv 8) (fa_cons (fv 6) fa_nil)))))))) (fg_tup rfl (fgs_cons (fg_name (i := 10) sc_law_totals.nd rfl (.inl rfl)) (fgs_cons (fg_name (i := 11) sc_law_totals.nd rfl (.inl rfl)) fgs_nil)) (by rfl)) (fss_one (fs_set (i := 9) sc_law_totals.nd rfl (.inl rfl) (fe_callB (call_max2F rfl) (by rfl) B.b_max (by decide +kernel) (fa_cons (fv 9) (fa_cons (fe_op op_addF (fv 10) (fe_callD D_law_left hr (by rfl) (fa_cons (fv 4) (fa_cons (fv 0) (fa_cons (fv 3) (fa_cons (fe_op op_addF (fv 8) fe_int) (fa_cons (fv 11) fa_nil))))))) fa_nil))))))
    (fss_one (fs_asg (fv 9) (fg_sub (fv 4) (fe_tup (fa_cons (fv 8) (fa_cons (fv 6) fa_nil))) (setF (hu_of hr))))))))))))
    (fss_one (fs_ret (fv 4)))))

abbrev s_law_bar_table : Stmt := topS 32
abbrev N_law_bar_table : List Str := ["rows", "table", "row"]
theorem sc_law_bar_table : FnScope ["rows", "table", "row"] ["rows"] (defScope s_law_bar_table) := ⟨rfl, rfl, rfl, by decide +kernel, rfl, by decide +kernel, by decide +kernel⟩
noncomputable def m_law_bar_table_b1 : Ms :=
  (mSeq (mIfS (mOr (mNot (mTest (mL f_law_is_ints (aCons (mVar 2) aNil)))) (mOr (mTest (mOp fNe (mL fLen (aCons (mVar 2) aNil)) (mC (.int 3)))) (mTest (mOp fIn (mL fTup (aCons (mOp fSub_ (mVar 2) (mC (.int 0))) (aCons (mOp fSub_ (mVar 2) (mC (.int 1))) aNil))) (mVar 1))))) (mRet (mC .non)) mNext)
  (mAsg (mOp fSub_ (mVar 2) (mC (.int 2))) (gSb fSet_ (mVar 1) (mL fTup (aCons (mOp fSub_ (mVar 2) (mC (.int 0))) (aCons (mOp fSub_ (mVar 2) (mC (.int 1))) aNil))))))
noncomputable def m_law_bar_table : Ms :=
  (mSeq (mIfS (mNot (mTest (mL fIsi (aCons (mVar 0) (aCons (mC (.ty "tuple")) aNil))))) (mRet (mC .non)) mNext)
  (mSeq (mSet 1 mDnewT)
  (mSeq (mFor (mIt (mVar 0)) (gN 2)
    m_law_bar_table_b1)
  (mRet (mVar 1)))))
noncomputable def f_law_bar_table : FnL := runB 1 3 m_law_bar_table
theorem ok_law_bar_table {P : Program} {w : World} {K : PySem.W.Frag} {mg : Str → Option Value} {base : Heap} {fa : Addr} {fd : FuncData} (B : Bi mg) (F : FnP K "_law_bar_table" s_law_bar_table fa fd) (g : mg "_law_bar_table" = some (.ref fa)) (D_law_is_ints : DefOk P w K mg base 2 "_law_is_ints" ["row"] f_law_is_ints) :
    DefOk P w K mg base 3 "_law_bar_table" ["rows"] f_law_bar_table :=
  okDef (N := ["rows", "table", "row"]) F g sc_law_bar_table (fun _ _ _ _ _ _ us hl => match us, hl with | [_], _ => rfl) fun cdv A outer s H E hr =>
    (fss_cons (fs_if (ft_not (ft_val (fe_callB call_isiF (by rfl) B.b_isinstance (by decide +kernel) (fa_cons (fv 0) (fa_cons (fe_ty (by rfl) B.b_tuple (by decide +kernel)) fa_nil))))) (fss_one (fs_ret fe_non)) fss_nil)
    (fss_cons (fs_set (i := 1) sc_law_bar_table.nd rfl (.inl rfl) fe_dnewT)
    (fss_cons (fs_for PassesOwn.never rfl (fi_any (fv 0)) (fg_name (i := 2) sc_law_bar_table.nd rfl (.inl rfl)) (fss_cons (fs_if (fw_pt (fw_or (ft_not (ft_val (fe_callD D_law_is_ints hr (by rfl) (fa_cons (fv 2) fa_nil)))) (fw_or (ft_cmp (op_neF hr.units) (fe_callB call_lenF (by rfl) B.b_len (by decide +kernel) (fa_cons (fv 2) fa_nil)) fe_int (nomark _)) (fw_or1 (ft_in (hu_of hr) (fe_tup (fa_cons (fe_sub (hu_of hr) (fv 2) fe_int (fun _ _ => rfl)) (fa_cons (fe_sub (hu_of hr) (fv 2) fe_int (fun _ _ => rfl)) fa_nil))) (fv 1)))))) (fss_one (fs_ret fe_non)) fss_nil)
    (fss_one (fs_asg (fe_sub (hu_of hr) (fv 2) fe_int (fun _ _ => rfl)) (fg_sub (fv 1) (fe_tup (fa_cons (fe_sub (hu_of hr) (fv 2) fe_int (fun _ _ => rfl)) (fa_cons (fe_sub (hu_of hr) (fv 2) fe_int (fun _ _ => rfl)) fa_nil))) (setF (hu_of hr)))))))
    (fss_one (fs_ret (fv 1))))))

abbrev s_law_is_bar : Stmt := topS 33
abbrev N_law_is_bar : List Str := ["ticks", "late", "lost", "lag", "total", "rows", "frames", "table", "frame", "stamp", "number", "gain", "new", "rest"]
theorem sc_law_is_bar : FnScope ["ticks", "late", "lost", "lag", "total", "rows", "frames", "table", "frame", "stamp", "number", "gain", "new", "rest"] ["ticks", "late", "lost", "lag", "total", "rows"] (defScope s_law_is_bar) := ⟨rfl, rfl, rfl, by decide +kernel, rfl, by decide +kernel, by decide +kernel⟩
noncomputable def m_law_is_bar_b1 : Ms :=
  (mSeq (mSet 13 (mC (.int 0)))
  (mSeq (mIfS (mAnd (mTest (mOp fLt (mOp fAdd (mVar 12) (mVar 3)) (mOp fSub (mVar 0) (mC (.int 1))))) (mTest (mOp fLt (mOp fAdd (mVar 8) (mC (.int 1))) (mVar 6)))) (mSeq (mIfS (mTest (mOp fNotIn (mL fTup (aCons (mOp fAdd (mVar 8) (mC (.int 1))) (aCons (mVar 12) aNil))) (mVar 7))) (mRet (mC (.bl false))) mNext)
  (mSet 13 (mOp fSub_ (mVar 7) (mL fTup (aCons (mOp fAdd (mVar 8) (mC (.int 1))) (aCons (mVar 12) aNil)))))) mNext)
  (mIfS (mTest (mOp fGt (mOp fAdd (mVar 11) (mVar 13)) (mVar 10))) (mRet (mC (.bl false))) mNext)))
noncomputable def m_law_is_bar_b2 : Ms :=
  (mSeq (mIfS (mNot (mAnd (mTest (mChain fLe fLt (mC (.int 0)) (mVar 8) (mVar 6))) (mAnd (mTest (mChain fLe fLt (mUn fNeg (mC (.int 1))) (mVar 9) (mVar 8))) (mTest (mOp fLt (mOp fAdd (mVar 9) (mVar 3)) (mOp fSub (mVar 0) (mC (.int 1)))))))) (mRet (mC (.bl false))) mNext)
  (mFor (mIt (mL f_law_ways (aCons (mVar 0) (aCons (mVar 1) (aCons (mVar 2) (aCons (mVar 3) (aCons (mVar 8) (aCons (mVar 9) aNil)))))))) (gTp 2 (gsCons (gN 11) (gsCons (gN 12) gsNil)))
    m_law_is_bar_b1))
noncomputable def m_law_is_bar : Ms :=
  (mSeq (mSet 6 (mL f_law_frames (aCons (mVar 0) (aCons (mVar 1) (aCons (mVar 2) aNil)))))
  (mSeq (mSet 7 (mL f_law_bar_table (aCons (mVar 5) aNil)))
  (mSeq (mIfS (mOr (mTest (mOp (fIs false) (mVar 7) (mC .non))) (mNot (mTest (mL f_law_is_int (aCons (mVar 4) aNil))))) (mRet (mC (.bl false))) mNext)
  (mSeq (mIfS (mTest (mOp fGe (mVar 3) (mVar 0))) (mRet (mAndV (mOp fEq (mL fLen (aCons (mVar 5) aNil)) (mC (.int 0))) (mOp fGe (mVar 4) (mC (.int 0))))) mNext)
  (mSeq (mIfS (mOr (mTest (mOp fNotIn (mL fTup (aCons (mC (.int 0)) (aCons (mUn fNeg (mC (.int 1))) aNil))) (mVar 7))) (mTest (mOp fGt (mOp fSub_ (mVar 7) (mL fTup (aCons (mC (.int 0)) (aCons (mUn fNeg (mC (.int 1))) aNil)))) (mVar 4)))) (mRet (mC (.bl false))) mNext)
  (mSeq (mFor (mIt (mVar 5)) (gTp 3 (gsCons (gN 8) (gsCons (gN 9) (gsCons (gN 10) gsNil))))
    m_law_is_bar_b2)
  (mRet (mC (.bl true)))))))))
noncomputable def f_law_is_bar : FnL := runB 6 14 m_law_is_bar
theorem ok_law_is_bar {P : Program} {w : World} {K : PySem.W.Frag} {mg : Str → Option Value} {base : Heap} {fa : Addr} {fd : FuncData} (B : Bi mg) (F : FnP K "_law_is_bar" s_law_is_bar fa fd) (g : mg "_law_is_bar" = some (.ref fa)) (D_law_frames : DefOk P w K mg base 2 "_law_frames" ["ticks", "late", "lost"] f_law_frames) (D_law_bar_table : DefOk P w K mg base 3 "_law_bar_table" ["rows"] f_law_bar_table) (D_law_is_int : DefOk P w K mg base 1 "_law_is_int" ["thing"] f_law_is_int) (D_law_ways : DefOk P w K mg base 1 "_law_ways" ["ticks", "late", "lost", "lag", "frame", "stamp"] f_law_ways) :
    DefOk P w K mg base 4 "_law_is_bar" ["ticks", "late", "lost", "lag", "total", "rows"] f_law_is_bar :=
  okDef (N := ["ticks", "late", "lost", "lag", "total", "rows", "frames", "table", "frame", "stamp", "number", "gain", "new", "rest"]) F g sc_law_is_bar (fun _ _ _ _ _ _ us hl => match us, hl with | [_, _, _, _, _, _], _ => rfl) fun cdv A outer s H E hr =>
    (fss_cons (fs_set (i := 6) sc_law_is_bar.nd rfl (.inl rfl) (fe_callD D_law_frames hr (by rfl) (fa_cons (fv 0) (fa_cons (fv 1) (fa_cons (fv 2) fa_nil)))))
    (fss_cons (fs_set (i := 7) sc_law_is_bar.nd rfl (.inl rfl) (fe_callD D_law_bar_table hr (by rfl) (fa_cons (fv 5) fa_nil)))
    (fss_cons (fs_if (fw_pt (fw_or (ft_cmp op_isF (fv 7) fe_non (nomark _)) (fw_or1 (ft_not (ft_val (fe_callD D_law_is_int hr (by rfl) (fa_cons (fv 4) fa_nil))))))) (fss_one (fs_ret fe_bl)) fss_nil)
    (fss_cons (fs_if (ft_cmp op_geF (fv 3) (fv 0) (nomark _)) (fss_one (fs_ret (fe_and (fe_cmp (op_eqF hr.units) (fe_callB call_lenF (by rfl) B.b_len (by decide +kernel) (fa_cons (fv 5) fa_nil)) fe_int (nomark _)) (fe_one (fe_cmp op_geF (fv 4) fe_int (nomark _)))))) fss_nil)
    (fss_cons (fs_if (fw_pt (fw_or (ft_notIn (hu_of hr) (fe_tup (fa_cons fe_int (fa_cons (fe_un un_negF fe_int) fa_nil))) (fv 7)) (fw_or1 (ft_cmp op_gtF (fe_sub (hu_of hr) (fv 7) (fe_tup (fa_cons fe_int (fa_cons (fe_un un_negF fe_int) fa_nil))) (fun _ _ => rfl)) (fv 4) (nomark _))))) (fss_one (fs_ret fe_bl)) fss_nil)
    (fss_cons (fs_for PassesOwn.never rfl (fi_any (fv 5)) (fg_tup rfl (fgs_cons (fg_name (i := 8) sc_law_is_bar.nd rfl (.inl rfl)) (fgs_cons (fg_name (i := 9) sc_law_is_bar.nd rfl (.inl rfl)) (fgs_cons (fg_name (i := 10) sc_law_is_bar.nd rfl (.inl rfl)) fgs_nil))) (by rfl)) (fss_cons (fs_if (ft_not (fw_pt (fw_and (ft_chain op_leF op_ltF fe_int (fv 8) (fv 6)) (fw_and (ft_chain op_leF op_ltF (fe_un un_negF fe_int) (fv 9) (fv 8)) (fw_and1 (ft_cmp op_ltF (fe_op op_addF (fv 9) (fv 3)) (fe_op op_subF (fv 0) fe_int) (nomark _))))))) (fss_one (fs_ret fe_bl)) fss_nil)
    (fss_one (fs_for PassesOwn.never rfl (fi_any (fe_callD D_law_ways hr (by rfl) (fa_cons (fv 0) (fa_cons (fv 1) (fa_cons (fv 2) (fa_cons (fv 3) (fa_cons (fv 8) (fa_cons (fv 9) fa_nil)))))))) (fg_tup rfl (fgs_cons (fg_name (i := 11) sc_law_is_bar.nd rfl (.inl rfl)) (fgs_cons (fg_name (i := 12) sc_law_is_bar.nd rfl (.inl rfl)) fgs_nil)) (by rfl)) (fss_cons (fs_set (i := 13) sc_law_is_bar.nd rfl (.inl rfl) fe_int)
    (fss_cons (fs_if (fw_pt (fw_and (ft_cmp op_ltF (fe_op op_addF (fv 12) (fv 3)) (fe_op op_subF (fv 0) fe_int) (nomark _)) (fw_and1 (ft_cmp op_ltF (fe_op op_addF (fv 8) fe_int) (fv 6) (nomark _))))) (fss_cons (fs_if (ft_notIn (hu_of hr) (fe_tup (fa_cons (fe_op op_addF (fv 8) fe_int) (fa_cons (fv 12) fa_nil))) (fv 7)) (fss_one (fs_ret fe_bl)) fss_nil)
    (fss_one (fs_set (i := 13) sc_law_is_bar.nd rfl (.inl rfl) (fe_sub (hu_of hr) (fv 7) (fe_tup (fa_cons (fe_op op_addF (fv 8) fe_int) (fa_cons (fv 12) fa_nil))) (fun _ _ => rfl))))) fss_nil)
    (fss_one (fs_if (ft_cmp op_gtF (fe_op op_addF (fv 11) (fv 13)) (fv 10) (nomark _)) (fss_one (fs_ret fe_bl)) fss_nil))))))))
    (fss_one (fs_ret fe_bl))))))))

abbrev s_law_right_rows : Stmt := topS 34
abbrev N_law_right_rows : List Str := ["d", "table", "ticks", "late", "lost", "lag", "way", "more", "frames", "found", "frame", "stamp", "number"]
theorem sc_law_right_rows : FnScope ["d", "table", "ticks", "late", "lost", "lag", "way", "more", "frames", "found", "frame", "stamp", "number"] ["d", "table", "ticks", "late", "lost", "lag"] (defScope s_law_right_rows) := ⟨rfl, rfl, rfl, by decide +kernel, rfl, by decide +kernel, by decide +kernel⟩
noncomputable def m_law_right_rows_b1 : Ms :=
  (mSeq (mSet 12 (mOp fAdd (mOp fSub_ (mVar 1) (mL fTup (aCons (mVar 10) (aCons (mVar 11) aNil)))) (mVar 7)))
  (mSeq (mIfS (mTest (mOp fEq (mVar 6) (mC (.int 1)))) (mSet 12 (mOp fSub_ (mVar 1) (mL fTup (aCons (mVar 10) (aCons (mVar 11) aNil))))) (mIfS (mTest (mOp fEq (mVar 6) (mC (.int 2)))) (mSet 12 (mOp fAdd (mOp fSub_ (mVar 1) (mL fTup (aCons (mVar 10) (aCons (mVar 11) aNil)))) (mOp fMul (mVar 7) (mOp fSub (mVar 8) (mVar 10))))) (mIfS (mTest (mOp fEq (mVar 6) (mC (.int 3)))) (mSet 12 (mOp fAdd (mOp fMul (mOp fSub (mOp fSub (mOp fSub (mVar 2) (mC (.int 1))) (mVar 5)) (mVar 11)) (mL fMax2 (aCons (mC (.int 0)) (aCons (mOp fSub (mOp fAdd (mVar 3) (mVar 4)) (mVar 5)) aNil)))) (mVar 7))) mNext)))
  (mDrop (mBM "list" fApp (mVar 9) (aCons (mL fTup (aCons (mVar 10) (aCons (mVar 11) (aCons (mVar 12) aNil)))) aNil)))))
noncomputable def m_law_right_rows : Ms :=
  (mSeq (mSet 6 (mL f_law_draw (aCons (mVar 0) (aCons (mC (.int 4)) aNil))))
  (mSeq (mSet 7 (mL f_law_draw (aCons (mVar 0) (aCons (mC (.int 4)) aNil))))
  (mSeq (mSet 8 (mL f_law_frames (aCons (mVar 2) (aCons (mVar 3) (aCons (mVar 4) aNil)))))
  (mSeq (mSet 9 (mL fLst aNil))
  (mSeq (mFor (mIt (mL fSortDT (aCons (mVar 1) aNil))) (gTp 2 (gsCons (gN 10) (gsCons (gN 11) gsNil)))
    m_law_right_rows_b1)
  (mRet (mVar 9)))))))
noncomputable def f_law_right_rows : FnL := runB 6 13 m_law_right_rows
theorem ok_law_right_rows {P : Program} {w : World} {K : PySem.W.Frag} {mg : Str → Option Value} {base : Heap} {fa : Addr} {fd : FuncData} (B : Bi mg) (F : FnP K "_law_right_rows" s_law_right_rows fa fd) (g : mg "_law_right_rows" = some (.ref fa)) (D_law_draw : DefOk P w K mg base 1 "_law_draw" ["d", "many"] f_law_draw) (D_law_frames : DefOk P w K mg base 2 "_law_frames" ["ticks", "late", "lost"] f_law_frames) :
    DefOk P w K mg base 3 "_law_right_rows" ["d", "table", "ticks", "late", "lost", "lag"] f_law_right_rows :=
  okDef (N := ["d", "table", "ticks", "late", "lost", "lag", "way", "more", "frames", "found", "frame", "stamp", "number"]) F g sc_law_right_rows (fun _ _ _ _ _ _ us hl => match us, hl with | [_, _, _, _, _, _], _ => rfl) fun cdv A outer s H E hr =>
    (fss_cons (fs_set (i := 6) sc_law_right_rows.nd rfl (.inl rfl) (fe_callD D_law_draw hr (by rfl) (fa_cons (fv 0) (fa_cons fe_int fa_nil))))
    (fss_cons (fs_set (i := 7) sc_law_right_rows.nd rfl (.inl rfl) (fe_callD D_law_draw hr (by rfl) (fa_cons (fv 0) (fa_cons fe_int fa_nil))))
    (fss_cons (fs_set (i := 8) sc_law_right_rows.nd rfl (.inl rfl) (fe_callD D_law_frames hr (by rfl) (fa_cons (fv 2) (fa_cons (fv 3) (fa_cons (fv 4) fa_nil)))))
    (fss_cons (fs_set (i := 9) sc_law_right_rows.nd rfl (.inl rfl) (fe_lst fa_nil))
    (fss_cons (fs_for PassesOwn.never rfl (fi_any (fe_callB (call_SortDT rfl) (by rfl) B.b_sorted (by decide +kernel) (fa_cons (fv 1) fa_nil))) (fg_tup rfl (fgs_cons (fg_name (i := 10) sc_law_right_rows.nd rfl (.inl rfl)) (fgs_cons (fg_name (i := 11) sc_law_right_rows.nd rfl (.inl rfl)) fgs_nil)) (by rfl)) (fss_cons (fs_set (i := 12) sc_law_right_rows.nd rfl (.inl rfl) (fe_op op_addF (fe_sub (hu_of hr) (fv 1) (fe_tup (fa_cons (fv 10) (fa_cons (fv 11) fa_nil))) (fun _ _ => rfl)) (fv 7)))
    (fss_cons (fs_if (ft_cmp (op_eqF hr.units) (fv 6) fe_int (nomark _)) (fss_one (fs_set (i := 12) sc_law_right_rows.nd rfl (.inl rfl) (fe_sub (hu_of hr) (fv 1) (fe_tup (fa_cons (fv 10) (fa_cons (fv 11) fa_nil))) (fun _ _ => rfl)))) (fss_one (fs_if (ft_cmp (op_eqF hr.units) (fv 6) fe_int (nomark _)) (fss_one (fs_set (i := 12) sc_law_right_rows.nd rfl (.inl rfl) (fe_op op_addF (fe_sub (hu_of hr) (fv 1) (fe_tup (fa_cons (fv 10) (fa_cons (fv 11) fa_nil))) (fun _ _ => rfl)) (fe_op op_mulF (fv 7) (fe_op op_subF (fv 8) (fv 10)))))) (fss_one (fs_if (ft_cmp (op_eqF hr.units) (fv 6) fe_int (nomark _)) (fss_one (fs_set (i := 12) sc_law_right_rows.nd rfl (.inl rfl) (fe_op op_addF (fe_op op_mulF (fe_op op_subF (fe_op op_subF (fe_op op_subF (fv 2) fe_int) (fv 5)) (fv 11)) (fe_callB (call_max2F rfl) (by rfl) B.b_max (by decide +kernel) (fa_cons fe_int (fa_cons (fe_op op_subF (fe_op op_addF (fv 3) (fv 4)) (fv 5)) fa_nil)))) (fv 7)))) fss_nil)))))
    (fss_one (fs_expr (fe_bm PySem.F.plainAttrs_list PySem.F.slot_list_append PySem.F.type_list_append mt_appF (fv 9) (fa_cons (fe_tup (fa_cons (fv 10) (fa_cons (fv 11) (fa_cons (fv 12) fa_nil)))) fa_nil)))))))
    (fss_one (fs_ret (fv 9))))))))

abbrev s_law_wider_rows : Stmt := topS 35
abbrev N_law_wider_rows : List Str := ["d", "rows", "ticks", "late", "lost", "lag", "frames", "table", "found", "turn", "stamp", "first", "frame", "number", "gain", "new"]
theorem sc_law_wider_rows : FnScope ["d", "rows", "ticks", "late", "lost", "lag", "frames", "table", "found", "turn", "stamp", "first", "frame", "number", "gain", "new"] ["d", "rows", "ticks", "late", "lost", "lag"] (defScope s_law_wider_rows) := ⟨rfl, rfl, rfl, by decide +kernel, rfl, by decide +kernel, by decide +kernel⟩
noncomputable def m_law_wider_rows_b1 : Ms :=
  (mSeq (mIfS (mAnd (mTest (mOp fLt (mOp fAdd (mVar 15) (mVar 5)) (mOp fSub (mVar 2) (mC (.int 1))))) (mTest (mOp fLt (mOp fAdd (mVar 12) (mC (.int 1))) (mVar 6)))) (mSet 14 (mOp fAdd (mVar 14) (mOp fSub_ (mVar 7) (mL fTup (aCons (mOp fAdd (mVar 12) (mC (.int 1))) (aCons (mVar 15) aNil)))))) mNext)
  (mSet 13 (mL fMax2 (aCons (mVar 13) (aCons (mVar 14) aNil)))))
noncomputable def m_law_wider_rows_b2 : Ms :=
  (mSeq (mSet 10 (mOp fSub (mL f_law_draw (aCons (mVar 0) (aCons (mOp fSub (mVar 2) (mVar 5)) aNil))) (mC (.int 1))))
  (mSeq (mSet 11 (mOp fAdd (mOp fAdd (mOp fAdd (mVar 10) (mC (.int 2))) (mVar 3)) (mVar 4)))
  (mSeq (mSet 12 (mOp fAdd (mVar 11) (mL f_law_draw (aCons (mVar 0) (aCons (mOp fSub (mVar 6) (mVar 11)) aNil)))))
  (mIfS (mTest (mOp fNotIn (mL fTup (aCons (mVar 12) (aCons (mVar 10) aNil))) (mVar 7))) (mSeq (mSet 13 (mC (.int 0)))
  (mSeq (mFor (mIt (mL f_law_ways (aCons (mVar 2) (aCons (mVar 3) (aCons (mVar 4) (aCons (mVar 5) (aCons (mVar 12) (aCons (mVar 10) aNil)))))))) (gTp 2 (gsCons (gN 14) (gsCons (gN 15) gsNil)))
    m_law_wider_rows_b1)
  (mSeq (mAsg (mVar 13) (gSb fSet_ (mVar 7) (mL fTup (aCons (mVar 12) (aCons (mVar 10) aNil)))))
  (mDrop (mBM "list" fApp (mVar 8) (aCons (mL fTup (aCons (mVar 12) (aCons (mVar 10) (aCons (mVar 13) aNil)))) aNil)))))) mNext))))
noncomputable def m_law_wider_rows : Ms :=
  (mSeq (mSet 6 (mL f_law_frames (aCons (mVar 2) (aCons (mVar 3) (aCons (mVar 4) aNil)))))
  (mSeq (mSet 7 (mL f_law_bar_table (aCons (mL fTupOf (aCons (mVar 1) aNil)) aNil)))
  (mSeq (mSet 8 (mL fLstOf (aCons (mVar 1) aNil)))
  (mSeq (mFor (iRg fRg1 (aCons (mL f_law_pick (aCons (mVar 0) (aCons (mL fLst (aCons (mC (.int 0)) (aCons (mC (.int 1)) (aCons (mC (.int 2)) aNil)))) aNil))) aNil)) (gN 9)
    m_law_wider_rows_b2)
  (mRet (mVar 8))))))
noncomputable def f_law_wider_rows : FnL := runB 6 16 m_law_wider_rows
theorem ok_law_wider_rows {P : Program} {w : World} {K : PySem.W.Frag} {mg : Str → Option Value} {base : Heap} {fa : Addr} {fd : FuncData} (B : Bi mg) (F : FnP K "_law_wider_rows" s_law_wider_rows fa fd) (g : mg "_law_wider_rows" = some (.ref fa)) (D_law_frames : DefOk P w K mg base 2 "_law_frames" ["ticks", "late", "lost"] f_law_frames) (D_law_bar_table : DefOk P w K mg base 3 "_law_bar_table" ["rows"] f_law_bar_table) (D_law_pick : DefOk P w K mg base 2 "_law_pick" ["d", "row"] f_law_pick) (D_law_draw : DefOk P w K mg base 1 "_law_draw" ["d", "many"] f_law_draw) (D_law_ways : DefOk P w K mg base 1 "_law_ways" ["ticks", "late", "lost", "lag", "frame", "stamp"] f_law_ways) :
    DefOk P w K mg base 4 "_law_wider_rows" ["d", "rows", "ticks", "late", "lost", "lag"] f_law_wider_rows :=
  okDef (N := ["d", "rows", "ticks", "late", "lost", "lag", "frames", "table", "found", "turn", "stamp", "first", "frame", "number", "gain", "new"]) F g sc_law_wider_rows (fun _ _ _ _ _ _ us hl => match us, hl with | [_, _, _, _, _, _], _ => rfl) fun cdv A outer s H E hr =>
    (fss_cons (fs_set (i := 6) sc_law_wider_rows.nd rfl (.inl rfl) (fe_callD D_law_frames hr (by rfl) (fa_cons (fv 2) (fa_cons (fv 3) (fa_cons (fv 4) fa_nil)))))
    (fss_cons (fs_set (i := 7) sc_law_wider_rows.nd rfl (.inl rfl) (fe_callD D_law_bar_table hr (by rfl) (fa_cons (fe_callTy call_tupF (by rfl) B.b_tuple (by decide +kernel) (fa_cons (fv 1) fa_nil)) fa_nil)))
    (fss_cons (fs_set (i := 8) sc_law_wider_rows.nd rfl (.inl rfl) (fe_callTy (call_lstF rfl) (by rfl) B.b_list (by decide +kernel) (fa_cons (fv 1) fa_nil)))
    (fss_cons (fs_for PassesOwn.never rfl (fi_range1 (by rfl) B.b_range (fa_cons (fe_callD D_law_pick hr (by rfl) (fa_cons (fv 0) (fa_cons (fe_lst (fa_cons fe_int (fa_cons fe_int (fa_cons fe_int fa_nil)))) fa_nil))) fa_nil)) (fg_name (i := 9) sc_law_wider_rows.nd rfl (.inl rfl)) (fss_cons (fs_set (i := 10) sc_law_wider_rows.nd rfl (.inl rfl) (fe_op op_subF (fe_callD D_law_draw hr (by rfl) (fa_cons (fv 0) (fa_cons (fe_op op_subF (fv 2) (fv 5)) fa_nil))) fe_int))
    (fss_cons (fs_set (i := 11) sc_law_wider_rows.nd rfl (.inl rfl) (fe_op op_addF (fe_op op_addF (fe_op op_addF (fv 10) fe_int) (fv 3)) (fv 4)))
    (fss_cons (fs_set (i := 12) sc_law_wider_rows.nd rfl (.inl rfl) (fe_op op_addF (fv 11) (fe_callD D_law_draw hr (by rfl) (fa_cons (fv 0) (fa_cons (fe_op op_subF (fv 6) (fv 11)) fa_nil)))))
    (fss_one (fs_if (ft_notIn (hu_of hr) (fe_tup (fa_cons (fv 12) (fa_cons (fv 10) fa_nil))) (fv 7)) (fss_cons (fs_set (i := 13) sc_law_wider_rows.nd rfl (.inl rfl) fe_int)
    (fss_cons (fs_for PassesOwn.never rfl (fi_any (fe_callD D_law_ways hr (by rfl) (fa_cons (fv 2) (fa_cons (fv 3) (fa_cons (fv 4) (fa_cons (fv 5) (fa_cons (fv 12) (fa_cons (fv 10) fa_nil)))))))) (fg_tup rfl (fgs_cons (fg_name (i := 14) sc_law_wider_rows.nd rfl (.inl rfl)) (fgs_cons (fg_name (i := 15) sc_law_wider_rows.nd rfl (.inl rfl)) fgs_nil)) (by rfl)) (fss_cons (fs_if (fw_pt (fw_and (ft_cmp op_ltF (fe_op op_addF (fv 15) (fv 5)) (fe_op op_subF (fv 2) fe_int) (nomark _)) (fw_and1 (ft_cmp op_ltF (fe_op op_addF (fv 12) fe_int) (fv 6) (nomark _))))) (fss_one (fs_set (i := 14) sc_law_wider_rows.nd rfl (.inl rfl) (fe_op op_addF (fv 14) (fe_sub (hu_of hr) (fv 7) (fe_tup (fa_cons (fe_op op_addF (fv 12) fe_int) (fa_cons (fv 15) fa_nil))) (fun _ _ => rfl))))) fss_nil)
    (fss_one (fs_set (i := 13) sc_law_wider_rows.nd rfl (.inl rfl) (fe_callB (call_max2F rfl) (by rfl) B.b_max (by decide +kernel) (fa_cons (fv 13) (fa_cons (fv 14) fa_nil)))))))
    (fss_cons (fs_asg (fv 13) (fg_sub (fv 7) (fe_tup (fa_cons (fv 12) (fa_cons (fv 10) fa_nil))) (setF (hu_of hr))))
    (fss_one (fs_expr (fe_bm PySem.F.plainAttrs_list PySem.F.slot_list_append PySem.F.type_list_append mt_appF (fv 8) (fa_cons (fe_tup (fa_cons (fv 12) (fa_cons (fv 10) (fa_cons (fv 13) fa_nil)))) fa_nil))))))) fss_nil))))))
    (fss_one (fs_ret (fv 8)))))))

abbrev s_law_bent_rows : Stmt := topS 36
abbrev N_law_bent_rows : List Str := ["d", "rows", "ticks", "late", "lost", "lag", "found", "at", "frame", "stamp", "number", "way", "other", "end", "strange"]
theorem sc_law_bent_rows : FnScope ["d", "rows", "ticks", "late", "lost", "lag", "found", "at", "frame", "stamp", "number", "way", "other", "end", "strange"] ["d", "rows", "ticks", "late", "lost", "lag"] (defScope s_law_bent_rows) := ⟨rfl, rfl, rfl, by decide +kernel, rfl, by decide +kernel, by decide +kernel⟩
noncomputable def m_law_bent_rows : Ms :=
  (mSeq (mSet 6 (mL fLstOf (aCons (mVar 1) aNil)))
  (mSeq (mSet 7 (mL f_law_draw (aCons (mVar 0) (aCons (mL fLen (aCons (mVar 6) aNil)) aNil))))
  (mSeq (mAsg (mOp fSub_ (mVar 6) (mVar 7)) (gTp 3 (gsCons (gN 8) (gsCons (gN 9) (gsCons (gN 10) gsNil)))))
  (mSeq (mSet 11 (mL f_law_draw (aCons (mVar 0) (aCons (mC (.int 8)) aNil))))
  (mSeq (mIfS (mTest (mOp fEq (mVar 11) (mC (.int 0)))) (mAsg (mL fTup (aCons (mVar 8) (aCons (mVar 9) (aCons (mOp fSub (mVar 10) (mC (.int 1))) aNil)))) (gSb fSet_ (mVar 6) (mVar 7))) (mIfS (mTest (mOp fEq (mVar 11) (mC (.int 1)))) (mAsg (mL fTup (aCons (mVar 8) (aCons (mVar 9) (aCons (mOp fAdd (mVar 10) (mC (.int 1))) aNil)))) (gSb fSet_ (mVar 6) (mVar 7))) (mIfS (mTest (mOp fEq (mVar 11) (mC (.int 2)))) (mDrop (mBM "list" fPop (mVar 6) (aCons (mVar 7) aNil))) (mIfS (mTest (mOp fEq (mVar 11) (mC (.int 3)))) (mDrop (mBM "list" fApp (mVar 6) (aCons (mL fTup (aCons (mVar 8) (aCons (mVar 9) (aCons (mOp fAdd (mVar 10) (mL f_law_draw (aCons (mVar 0) (aCons (mC (.int 2)) aNil)))) aNil)))) aNil))) (mIfS (mTest (mOp fEq (mVar 11) (mC (.int 4)))) (mAsg (mL fTup (aCons (mOp fAdd (mVar 8) (mL f_law_pick (aCons (mVar 0) (aCons (mL fLst (aCons (mC (.int 1)) (aCons (mUn fNeg (mC (.int 1))) aNil))) aNil)))) (aCons (mVar 9) (aCons (mVar 10) aNil)))) (gSb fSet_ (mVar 6) (mVar 7))) (mIfS (mTest (mOp fEq (mVar 11) (mC (.int 5)))) (mAsg (mL fTup (aCons (mVar 8) (aCons (mOp fAdd (mVar 9) (mL f_law_pick (aCons (mVar 0) (aCons (mL fLst (aCons (mC (.int 1)) (aCons (mUn fNeg (mC (.int 1))) aNil))) aNil)))) (aCons (mVar 10) aNil)))) (gSb fSet_ (mVar 6) (mVar 7))) (mIfS (mTest (mOp fEq (mVar 11) (mC (.int 6)))) (mSeq (mSet 12 (mL f_law_draw (aCons (mVar 0) (aCons (mL fLen (aCons (mVar 6) aNil)) aNil))))
  (mSeq (mAsg (mL fTup (aCons (mVar 8) (aCons (mVar 9) (aCons (mOp fSub_ (mOp fSub_ (mVar 6) (mVar 12)) (mC (.int 2))) aNil)))) (gSb fSet_ (mVar 6) (mVar 7)))
  (mAsg (mL fTup (aCons (mOp fSub_ (mOp fSub_ (mVar 6) (mVar 12)) (mC (.int 0))) (aCons (mOp fSub_ (mOp fSub_ (mVar 6) (mVar 12)) (mC (.int 1))) (aCons (mVar 10) aNil)))) (gSb fSet_ (mVar 6) (mVar 12))))) (mSeq (mSet 13 (mL f_law_frames (aCons (mVar 2) (aCons (mVar 3) (aCons (mVar 4) aNil)))))
  (mSeq (mSet 14 (mL fLst (aCons (mL fTup (aCons (mVar 13) (aCons (mVar 9) (aCons (mC (.int 999)) aNil)))) (aCons (mL fTup (aCons (mVar 8) (aCons (mVar 8) (aCons (mC (.int 999)) aNil)))) (aCons (mL fTup (aCons (mUn fNeg (mC (.int 1))) (aCons (mUn fNeg (mC (.int 1))) (aCons (mC (.int 999)) aNil)))) (aCons (mL fTup (aCons (mVar 8) (aCons (mUn fNeg (mC (.int 2))) (aCons (mC (.int 999)) aNil)))) aNil))))))
  (mSeq (mDrop (mBM "list" fApp (mVar 14) (aCons (mL fTup (aCons (mOp fSub (mVar 2) (mVar 5)) (aCons (mOp fSub (mOp fSub (mVar 2) (mC (.int 1))) (mVar 5)) (aCons (mC (.int 999)) aNil)))) aNil)))
  (mDrop (mBM "list" fApp (mVar 6) (aCons (mL f_law_pick (aCons (mVar 0) (aCons (mVar 14) aNil))) aNil)))))))))))))
  (mRet (mVar 6)))))))
noncomputable def f_law_bent_rows : FnL := runB 6 15 m_law_bent_rows
theorem ok_law_bent_rows {P : Program} {w : World} {K : PySem.W.Frag} {mg : Str → Option Value} {base : Heap} {fa : Addr} {fd : FuncData} (B : Bi mg) (F : FnP K "_law_bent_rows" s_law_bent_rows fa fd) (g : mg "_law_bent_rows" = some (.ref fa)) (D_law_draw : DefOk P w K mg base 1 "_law_draw" ["d", "many"] f_law_draw) (D_law_pick : DefOk P w K mg base 2 "_law_pick" ["d", "row"] f_law_pick) (D_law_frames : DefOk P w K mg base 2 "_law_frames" ["ticks", "late", "lost"] f_law_frames) :
    DefOk P w K mg base 3 "_law_bent_rows" ["d", "rows", "ticks", "late", "lost", "lag"] f_law_bent_rows :=
  okDef (N := ["d", "rows", "ticks", "late", "lost", "lag", "found", "at", "frame", "stamp", "number", "way", "other", "end", "strange"]) F g sc_law_bent_rows (fun _ _ _ _ _ _ us hl => match us, hl with | [_, _, _, _, _, _], _ => rfl) fun cdv A outer s H E hr =>
    (fss_cons (fs_set (i := 6) sc_law_bent_rows.nd rfl (.inl rfl) (fe_callTy (call_lstF rfl) (by rfl) B.b_list (by decide +kernel) (fa_cons (fv 1) fa_nil)))
    (fss_cons (fs_set (i := 7) sc_law_bent_rows.nd rfl (.inl rfl) (fe_callD D_law_draw hr (by rfl) (fa_cons (fv 0) (fa_cons (fe_callB call_lenF (by rfl) B.b_len (by decide +kernel) (fa_cons (fv 6) fa_nil)) fa_nil))))
    (fss_cons (fs_asg (fe_sub (hu_of hr) (fv 6) (fv 7) (fun _ _ => rfl)) (fg_tup rfl (fgs_cons (fg_name (i := 8) sc_law_bent_rows.nd rfl (.inl rfl)) (fgs_cons (fg_name (i := 9) sc_law_bent_rows.nd rfl (.inl rfl)) (fgs_cons (fg_name (i := 10) sc_law_bent_rows.nd rfl (.inl rfl)) fgs_nil))) (by rfl)))
    (fss_cons (fs_set (i := 11) sc_law_bent_rows.nd rfl (.inl rfl) (fe_callD D_law_draw hr (by rfl) (fa_cons (fv 0) (fa_cons fe_int fa_nil))))
    (fss_cons (fs_if (ft_cmp (op_eqF hr.units) (fv 11) fe_int (nomark _)) (fss_one (fs_asg (fe_tup (fa_cons (fv 8) (fa_cons (fv 9) (fa_cons (fe_op op_subF (fv 10) fe_int) fa_nil)))) (fg_sub (fv 6) (fv 7) (setF (hu_of hr))))) (fss_one (fs_if (ft_cmp (op_eqF hr.units) (fv 11) fe_int (nomark _)) (fss_one (fs_asg (fe_tup (fa_cons (fv 8) (fa_cons (fv 9) (fa_cons (fe_op op_addF (fv 10) fe_int) fa_nil)))) (fg_sub (fv 6) (fv 7) (setF (hu_of hr))))) (fss_one (fs_if (ft_cmp (op_eqF hr.units) (fv 11) fe_int (nomark _)) (fss_one (fs_expr (fe_bm PySem.F.plainAttrs_list PySem.F.slot_list_pop PySem.F.type_list_pop mt_popF (fv 6) (fa_cons (fv 7) fa_nil)))) (fss_one (fs_if (ft_cmp (op_eqF hr.units) (fv 11) fe_int (nomark _)) (fss_one (fs_expr (fe_bm PySem.F.plainAttrs_list PySem.F.slot_list_append PySem.F.type_list_append mt_appF (fv 6) (fa_cons (fe_tup (fa_cons (fv 8) (fa_cons (fv 9) (fa_cons (fe_op op_addF (fv 10) (fe_callD D_law_draw hr (by rfl) (fa_cons (fv 0) (fa_cons fe_int fa_nil)))) fa_nil)))) fa_nil)))) (fss_one (fs_if (ft_cmp (op_eqF hr.units) (fv 11) fe_int (nomark _)) (fss_one (fs_asg (fe_tup (fa_cons (fe_op op_addF (fv 8) (fe_callD D_law_pick hr (by rfl) (fa_cons (fv 0) (fa_cons (fe_lst (fa_cons fe_int (fa_cons (fe_un un_negF fe_int) fa_nil))) fa_nil)))) (fa_cons (fv 9) (fa_cons (fv 10) fa_nil)))) (fg_sub (fv 6) (fv 7) (setF (hu_of hr))))) (fss_one (fs_if (ft_cmp (op_eqF hr.units) (fv 11) fe_int (nomark _)) (fss_one (fs_asg (fe_tup (fa_cons (fv 8) (fa_cons (fe_op op_addF (fv 9) (fe_callD D_law_pick hr (by rfl) (fa_cons (fv 0) (fa_cons (fe_lst (fa_cons fe_int (fa_cons (fe_un un_negF fe_int) fa_nil))) fa_nil)))) (fa_cons (fv 10) fa_nil)))) (fg_sub (fv 6) (fv 7) (setF (hu_of hr))))) (fss_one (fs_if (ft_cmp (op_eqF hr.units) (fv 11) fe_int (nomark _)) (fss_cons (fs_set (i := 12) sc_law_bent_rows.nd rfl (.inl rfl) (fe_callD D_law_draw hr (by rfl) (fa_cons (fv 0) (fa_cons (fe_callB call_lenF (by rfl) B.b_len (by decide +kernel) (fa_cons (fv 6) fa_nil)) fa_nil))))
    (fss_cons (fs_asg (fe_tup (fa_cons (fv 8) (fa_cons (fv 9) (fa_cons (fe_sub (hu_of hr) (fe_sub (hu_of hr) (fv 6) (fv 12) (fun _ _ => rfl)) fe_int (fun _ _ => rfl)) fa_nil)))) (fg_sub (fv 6) (fv 7) (setF (hu_of hr))))
    (fss_one (fs_asg (fe_tup (fa_cons (fe_sub (hu_of hr) (fe_sub (hu_of hr) (fv 6) (fv 12) (fun _ _ => rfl)) fe_int (fun _ _ => rfl)) (fa_cons (fe_sub (hu_of hr) (fe_sub (hu_of hr) (fv 6) (fv 12) (fun _ _ => rfl)) fe_int (fun _ _ => rfl)) (fa_cons (fv 10) fa_nil)))) (fg_sub (fv 6) (fv 12) (setF (hu_of hr))))))) (fss_cons (fs_set (i := 13) sc_law_bent_rows.nd rfl (.inl rfl) (fe_callD D_law_frames hr (by rfl) (fa_cons (fv 2) (fa_cons (fv 3) (fa_cons (fv 4) fa_nil)))))
    (fss_cons (fs_set (i := 14) sc_law_bent_rows.nd rfl (.inl rfl) (fe_lst (fa_cons (fe_tup (fa_cons (fv 13) (fa_cons (fv 9) (fa_cons fe_int fa_nil)))) (fa_cons (fe_tup (fa_cons (fv 8) (fa_cons (fv 8) (fa_cons fe_int fa_nil)))) (fa_cons (fe_tup (fa_cons (fe_un un_negF fe_int) (fa_cons (fe_un un_negF fe_int) (fa_cons fe_int fa_nil)))) (fa_cons (fe_tup (fa_cons (fv 8) (fa_cons (fe_un un_negF fe_int) (fa_cons fe_int fa_nil)))) fa_nil))))))
    (fss_cons (fs_expr (fe_bm PySem.F.plainAttrs_list PySem.F.slot_list_append PySem.F.type_list_append mt_appF (fv 14) (fa_cons (fe_tup (fa_cons (fe_op op_subF (fv 2) (fv 5)) (fa_cons (fe_op op_subF (fe_op op_subF (fv 2) fe_int) (fv 5)) (fa_cons fe_int fa_nil)))) fa_nil)))
    (fss_one (fs_expr (fe_bm PySem.F.plainAttrs_list PySem.F.slot_list_append PySem.F.type_list_append mt_appF (fv 6) (fa_cons (fe_callD D_law_pick hr (by rfl) (fa_cons (fv 0) (fa_cons (fv 14) fa_nil))) fa_nil))))))))))))))))))))
    (fss_one (fs_ret (fv 6))))))))

abbrev s_law_odd_rows : Stmt := topS 37
abbrev N_law_odd_rows : List Str := ["d", "rows", "found", "at", "frame", "stamp", "number", "odd"]
theorem sc_law_odd_rows : FnScope ["d", "rows", "found", "at", "frame", "stamp", "number", "odd"] ["d", "rows"] (defScope s_law_odd_rows) := ⟨rfl, rfl, rfl, by decide +kernel, rfl, by decide +kernel, by decide +kernel⟩
noncomputable def m_law_odd_rows : Ms :=
  (mSeq (mSet 2 (mL fLstOf (aCons (mVar 1) aNil)))
  (mSeq (mSet 3 (mL f_law_draw (aCons (mVar 0) (aCons (mL fLen (aCons (mVar 2) aNil)) aNil))))
  (mSeq (mAsg (mOp fSub_ (mVar 2) (mVar 3)) (gTp 3 (gsCons (gN 4) (gsCons (gN 5) (gsCons (gN 6) gsNil)))))
  (mSeq (mSet 7 (mL fLst (aCons (mL fTup (aCons (mVar 4) (aCons (mVar 5) aNil))) (aCons (mL fTup (aCons (mVar 4) (aCons (mVar 5) (aCons (mVar 6) (aCons (mC (.int 0)) aNil))))) (aCons (mL fTup (aCons (mVar 4) (aCons (mVar 5) (aCons (mC .non) aNil)))) (aCons (mL fTup (aCons (mVar 4) (aCons (mC (.str ("0" : Str))) (aCons (mVar 6) aNil)))) (aCons (mC .non) (aCons (mC (.str ("row" : Str))) (aCons (mVar 6) aNil)))))))))
  (mSeq (mDrop (mBM "list" fApp (mVar 7) (aCons (mL fTup (aCons (mL fTup (aCons (mVar 4) (aCons (mVar 5) aNil))) (aCons (mVar 6) (aCons (mC (.int 0)) aNil)))) aNil)))
  (mSeq (mDrop (mBM "list" fIns (mVar 2) (aCons (mVar 3) (aCons (mL f_law_pick (aCons (mVar 0) (aCons (mVar 7) aNil))) aNil))))
  (mRet (mVar 2))))))))
noncomputable def f_law_odd_rows : FnL := runB 2 8 m_law_odd_rows
theorem ok_law_odd_rows {P : Program} {w : World} {K : PySem.W.Frag} {mg : Str → Option Value} {base : Heap} {fa : Addr} {fd : FuncData} (B : Bi mg) (F : FnP K "_law_odd_rows" s_law_odd_rows fa fd) (g : mg "_law_odd_rows" = some (.ref fa)) (D_law_draw : DefOk P w K mg base 1 "_law_draw" ["d", "many"] f_law_draw) (D_law_pick : DefOk P w K mg base 2 "_law_pick" ["d", "row"] f_law_pick) :
    DefOk P w K mg base 3 "_law_odd_rows" ["d", "rows"] f_law_odd_rows :=
  okDef (N := ["d", "rows", "found", "at", "frame", "stamp", "number", "odd"]) F g sc_law_odd_rows (fun _ _ _ _ _ _ us hl => match us, hl with | [_, _], _ => rfl) fun cdv A outer s H E hr =>
    (fss_cons (fs_set (i := 2) sc_law_odd_rows.nd rfl (.inl rfl) (fe_callTy (call_lstF rfl) (by rfl) B.b_list (by decide +kernel) (fa_cons (fv 1) fa_nil)))
    (fss_cons (fs_set (i := 3) sc_law_odd_rows.nd rfl (.inl rfl) (fe_callD D_law_draw hr (by rfl) (fa_cons (fv 0) (fa_cons (fe_callB call_lenF (by rfl) B.b_len (by decide +kernel) (fa_cons (fv 2) fa_nil)) fa_nil))))
    (fss_cons (fs_asg (fe_sub (hu_of hr) (fv 2) (fv 3) (fun _ _ => rfl)) (fg_tup rfl (fgs_cons (fg_name (i := 4) sc_law_odd_rows.nd rfl (.inl rfl)) (fgs_cons (fg_name (i := 5) sc_law_odd_rows.nd rfl (.inl rfl)) (fgs_cons (fg_name (i := 6) sc_law_odd_rows.nd rfl (.inl rfl)) fgs_nil))) (by rfl)))
    (fss_cons (fs_set (i := 7) sc_law_odd_rows.nd rfl (.inl rfl) (fe_lst (fa_cons (fe_tup (fa_cons (fv 4) (fa_cons (fv 5) fa_nil))) (fa_cons (fe_tup (fa_cons (fv 4) (fa_cons (fv 5) (fa_cons (fv 6) (fa_cons fe_int fa_nil))))) (fa_cons (fe_tup (fa_cons (fv 4) (fa_cons (fv 5) (fa_cons fe_non fa_nil)))) (fa_cons (fe_tup (fa_cons (fv 4) (fa_cons fe_str (fa_cons (fv 6) fa_nil)))) (fa_cons fe_non (fa_cons fe_str (fa_cons (fv 6) fa_nil)))))))))
    (fss_cons (fs_expr (fe_bm PySem.F.plainAttrs_list PySem.F.slot_list_append PySem.F.type_list_append mt_appF (fv 7) (fa_cons (fe_tup (fa_cons (fe_tup (fa_cons (fv 4) (fa_cons (fv 5) fa_nil))) (fa_cons (fv 6) (fa_cons fe_int fa_nil)))) fa_nil)))
    (fss_cons (fs_expr (fe_bm PySem.F.plainAttrs_list PySem.F.slot_list_insert PySem.F.type_list_insert mt_insF (fv 2) (fa_cons (fv 3) (fa_cons (fe_callD D_law_pick hr (by rfl) (fa_cons (fv 0) (fa_cons (fv 7) fa_nil))) fa_nil))))
    (fss_one (fs_ret (fv 2)))))))))

abbrev s_law_is_judged : Stmt := topS 38
abbrev N_law_is_judged : List Str := ["ticks", "late", "lost", "lag", "total", "rows", "told"]
theorem sc_law_is_judged : FnScope ["ticks", "late", "lost", "lag", "total", "rows", "told"] ["ticks", "late", "lost", "lag", "total", "rows"] (defScope s_law_is_judged) := ⟨rfl, rfl, rfl, by decide +kernel, rfl, by decide +kernel, by decide +kernel⟩
noncomputable def m_law_is_judged : Ms :=
  (mSeq (mSet 6 (mL fjudge_bar (aCons (mVar 0) (aCons (mVar 1) (aCons (mVar 2) (aCons (mVar 3) (aCons (mVar 4) (aCons (mVar 5) aNil))))))))
  (mRet (mAndV (mL fIsi (aCons (mVar 6) (aCons (mC (.ty "bool")) aNil))) (mOp fEq (mVar 6) (mL f_law_is_bar (aCons (mVar 0) (aCons (mVar 1) (aCons (mVar 2) (aCons (mVar 3) (aCons (mVar 4) (aCons (mVar 5) aNil)))))))))))
noncomputable def f_law_is_judged : FnL := runB 6 7 m_law_is_judged
theorem ok_law_is_judged {P : Program} {w : World} {K : PySem.W.Frag} {mg : Str → Option Value} {base : Heap} {fa : Addr} {fd : FuncData} (B : Bi mg) (F : FnP K "_law_is_judged" s_law_is_judged fa fd) (g : mg "_law_is_judged" = some (.ref fa)) (Djudge_bar : DefOk P w K mg base 5 "judge_bar" ["ticks", "d", "l", "lag", "total", "rows"] fjudge_bar) (D_law_is_bar : DefOk P w K mg base 4 "_law_is_bar" ["ticks", "late", "lost", "lag", "total", "rows"] f_law_is_bar) :
    DefOk P w K mg base 6 "_law_is_judged" ["ticks", "late", "lost", "lag", "total", "rows"] f_law_is_judged :=
  okDef (N := ["ticks", "late", "lost", "lag", "total", "rows", "told"]) F g sc_law_is_judged (fun _ _ _ _ _ _ us hl => match us, hl with | [_, _, _, _, _, _], _ => rfl) fun cdv A outer s H E hr =>
    (fss_cons (fs_set (i := 6) sc_law_is_judged.nd rfl (.inl rfl) (fe_callD Djudge_bar hr (by rfl) (fa_cons (fv 0) (fa_cons (fv 1) (fa_cons (fv 2) (fa_cons (fv 3) (fa_cons (fv 4) (fa_cons (fv 5) fa_nil))))))))
    (fss_one (fs_ret (fe_and (fe_callB call_isiF (by rfl) B.b_isinstance (by decide +kernel) (fa_cons (fv 6) (fa_cons (fe_ty (by rfl) B.b_bool (by decide +kernel)) fa_nil))) (fe_one (fe_cmp (op_eqF hr.units) (fv 6) (fe_callD D_law_is_bar hr (by rfl) (fa_cons (fv 0) (fa_cons (fv 1) (fa_cons (fv 2) (fa_cons (fv 3) (fa_cons (fv 4) (fa_cons (fv 5) fa_nil))))))) (nomark _)))))))

abbrev s_law_one_turn : Stmt := topS 39
abbrev N_law_one_turn : List Str := ["d", "table", "ticks", "late", "lost", "lag", "rows", "total", "way"]
theorem sc_law_one_turn : FnScope ["d", "table", "ticks", "late", "lost", "lag", "rows", "total", "way"] ["d", "table", "ticks", "late", "lost", "lag"] (defScope s_law_one_turn) := ⟨rfl, rfl, rfl, by decide +kernel, rfl, by decide +kernel, by decide +kernel⟩
noncomputable def m_law_one_turn : Ms :=
  (mSeq (mSet 6 (mL f_law_right_rows (aCons (mVar 0) (aCons (mVar 1) (aCons (mVar 2) (aCons (mVar 3) (aCons (mVar 4) (aCons (mVar 5) aNil))))))))
  (mSeq (mSet 7 (mOp fSub_ (mOp fSub_ (mVar 6) (mC (.int 0))) (mC (.int 2))))
  (mSeq (mSet 6 (mL f_law_wider_rows (aCons (mVar 0) (aCons (mVar 6) (aCons (mVar 2) (aCons (mVar 3) (aCons (mVar 4) (aCons (mVar 5) aNil))))))))
  (mSeq (mSet 8 (mL f_law_draw (aCons (mVar 0) (aCons (mC (.int 8)) aNil))))
  (mSeq (mIfS (mTest (mOp fLt (mVar 8) (mC (.int 4)))) (mSet 6 (mL f_law_bent_rows (aCons (mVar 0) (aCons (mVar 6) (aCons (mVar 2) (aCons (mVar 3) (aCons (mVar 4) (aCons (mVar 5) aNil)))))))) (mIfS (mTest (mOp fEq (mVar 8) (mC (.int 4)))) (mSet 7 (mOp fSub (mVar 7) (mC (.int 1)))) (mIfS (mTest (mOp fEq (mVar 8) (mC (.int 5)))) (mSet 6 (mL f_law_odd_rows (aCons (mVar 0) (aCons (mVar 6) aNil)))) (mSet 7 (mOp fAdd (mVar 7) (mL f_law_pick (aCons (mVar 0) (aCons (mL fLst (aCons (mC (.int 0)) (aCons (mC (.int 0)) (aCons (mC (.int 1)) (aCons (mC (.int 40)) aNil))))) aNil))))))))
  (mSeq (mIfS (mTest (mOp fEq (mL f_law_draw (aCons (mVar 0) (aCons (mC (.int 2)) aNil))) (mC (.int 0)))) (mSet 6 (mL f_law_shuffled (aCons (mVar 0) (aCons (mVar 6) aNil)))) mNext)
  (mRet (mL f_law_is_judged (aCons (mVar 2) (aCons (mVar 3) (aCons (mVar 4) (aCons (mVar 5) (aCons (mVar 7) (aCons (mL fTupOf (aCons (mVar 6) aNil)) aNil))))))))))))))
noncomputable def f_law_one_turn : FnL := runB 6 9 m_law_one_turn
theorem ok_law_one_turn {P : Program} {w : World} {K : PySem.W.Frag} {mg : Str → Option Value} {base : Heap} {fa : Addr} {fd : FuncData} (B : Bi mg) (F : FnP K "_law_one_turn" s_law_one_turn fa fd) (g : mg "_law_one_turn" = some (.ref fa)) (D_law_right_rows : DefOk P w K mg base 3 "_law_right_rows" ["d", "table", "ticks", "late", "lost", "lag"] f_law_right_rows) (D_law_wider_rows : DefOk P w K mg base 4 "_law_wider_rows" ["d", "rows", "ticks", "late", "lost", "lag"] f_law_wider_rows) (D_law_draw : DefOk P w K mg base 1 "_law_draw" ["d", "many"] f_law_draw) (D_law_bent_rows : DefOk P w K mg base 3 "_law_bent_rows" ["d", "rows", "ticks", "late", "lost", "lag"] f_law_bent_rows) (D_law_odd_rows : DefOk P w K mg base 3 "_law_odd_rows" ["d", "rows"] f_law_odd_rows) (D_law_pick : DefOk P w K mg base 2 "_law_pick" ["d", "row"] f_law_pick) (D_law_shuffled : DefOk P w K mg base 2 "_law_shuffled" ["d", "row"] f_law_shuffled) (D_law_is_judged : DefOk P w K mg base 6 "_law_is_judged" ["ticks", "late", "lost", "lag", "total", "rows"] f_law_is_judged) :
    DefOk P w K mg base 7 "_law_one_turn" ["d", "table", "ticks", "late", "lost", "lag"] f_law_one_turn :=
  okDef (N := ["d", "table", "ticks", "late", "lost", "lag", "rows", "total", "way"]) F g sc_law_one_turn (fun _ _ _ _ _ _ us hl => match us, hl with | [_, _, _, _, _, _], _ => rfl) fun cdv A outer s H E hr =>
    (fss_cons (fs_set (i := 6) sc_law_one_turn.nd rfl (.inl rfl) (fe_callD D_law_right_rows hr (by rfl) (fa_cons (fv 0) (fa_cons (fv 1) (fa_cons (fv 2) (fa_cons (fv 3) (fa_cons (fv 4) (fa_cons (fv 5) fa_nil))))))))
    (fss_cons (fs_set (i := 7) sc_law_one_turn.nd rfl (.inl rfl) (fe_sub (hu_of hr) (fe_sub (hu_of hr) (fv 6) fe_int (fun _ _ => rfl)) fe_int (fun _ _ => rfl)))
    (fss_cons (fs_set (i := 6) sc_law_one_turn.nd rfl (.inl rfl) (fe_callD D_law_wider_rows hr (by rfl) (fa_cons (fv 0) (fa_cons (fv 6) (fa_cons (fv 2) (fa_cons (fv 3) (fa_cons (fv 4) (fa_cons (fv 5) fa_nil))))))))
    (fss_cons (fs_set (i := 8) sc_law_one_turn.nd rfl (.inl rfl) (fe_callD D_law_draw hr (by rfl) (fa_cons (fv 0) (fa_cons fe_int fa_nil))))
    (fss_cons (fs_if (ft_cmp op_ltF (fv 8) fe_int (nomark _)) (fss_one (fs_set (i := 6) sc_law_one_turn.nd rfl (.inl rfl) (fe_callD D_law_bent_rows hr (by rfl) (fa_cons (fv 0) (fa_cons (fv 6) (fa_cons (fv 2) (fa_cons (fv 3) (fa_cons (fv 4) (fa_cons (fv 5) fa_nil))))))))) (fss_one (fs_if (ft_cmp (op_eqF hr.units) (fv 8) fe_int (nomark _)) (fss_one (fs_set (i := 7) sc_law_one_turn.nd rfl (.inl rfl) (fe_op op_subF (fv 7) fe_int))) (fss_one (fs_if (ft_cmp (op_eqF hr.units) (fv 8) fe_int (nomark _)) (fss_one (fs_set (i := 6) sc_law_one_turn.nd rfl (.inl rfl) (fe_callD D_law_odd_rows hr (by rfl) (fa_cons (fv 0) (fa_cons (fv 6) fa_nil))))) (fss_one (fs_set (i := 7) sc_law_one_turn.nd rfl (.inl rfl) (fe_op op_addF (fv 7) (fe_callD D_law_pick hr (by rfl) (fa_cons (fv 0) (fa_cons (fe_lst (fa_cons fe_int (fa_cons fe_int (fa_cons fe_int (fa_cons fe_int fa_nil))))) fa_nil)))))))))))
    (fss_cons (fs_if (ft_cmp (op_eqF hr.units) (fe_callD D_law_draw hr (by rfl) (fa_cons (fv 0) (fa_cons fe_int fa_nil))) fe_int (nomark _)) (fss_one (fs_set (i := 6) sc_law_one_turn.nd rfl (.inl rfl) (fe_callD D_law_shuffled hr (by rfl) (fa_cons (fv 0) (fa_cons (fv 6) fa_nil))))) fss_nil)
    (fss_one (fs_ret (fe_callD D_law_is_judged hr (by rfl) (fa_cons (fv 2) (fa_cons (fv 3) (fa_cons (fv 4) (fa_cons (fv 5) (fa_cons (fv 7) (fa_cons (fe_callTy call_tupF (by rfl) B.b_tuple (by decide +kernel) (fa_cons (fv 6) fa_nil)) fa_nil)))))))))))))))
abbrev s_law_begin : Stmt := topS 20
theorem sc_law_begin : FnScope ["script", "cell"] ["script"] (defScope s_law_begin) := ⟨rfl, rfl, rfl, by decide +kernel, rfl, by decide +kernel, by decide +kernel⟩
theorem ok_law_begin {P : Program} {w : World} {K : PySem.W.Frag} {mg : Str → Option Value} {base : Heap} {fa : Addr} {fd : FuncData} (B : Bi mg) (F : FnP K "_law_begin" s_law_begin fa fd) : FnOk P w K mg base CX0 1 fa fd ["script"] (spBegin K) := by
  refine F.ok sc_law_begin (fun vs H Q E h => ?_) (fun cdv A outer s H vs Q E hr h => ⟨tBeg K, PSs.nox ?_, beg_reads h⟩)
  · obtain ⟨a, ns, rfl, _⟩ := h
    rfl
  · exact pss_one (ps_ret (pe_lst (pa_cons (pe_lc (own := [("cell", 1)]) (g := gName 1) (tt := tYes) rfl sc_law_begin.nd (pi_list (pv 0)) (blkOk_by (N := ["script", "cell"]) (sc := defScope s_law_begin) (by decide +kernel)) (fun _ _ _ _ _ => pg_name (i := 1) sc_law_begin.nd rfl (.inl rfl)) (fun _ _ _ _ _ => pts_nil)
      (fun _ _ _ _ _ => pe_callTy call_int1 (by rfl) B.b_int (by decide +kernel) (pa_cons (pv 1) pa_nil))) (pa_cons pe_int (pa_cons pe_int (pa_cons pe_int pa_nil))))))

abbrev slaw : Stmt := topS 40
abbrev Nlaw : List Str := ["script", "d", "lag", "ticks", "late", "lost", "table", "told", "least", "asked", "at", "total", "rows", "turn", "row", "pair"]
theorem sclaw : FnScope ["script", "d", "lag", "ticks", "late", "lost", "table", "told", "least", "asked", "at", "total", "rows", "turn", "row", "pair"] ["script"] (defScope slaw) := ⟨rfl, rfl, rfl, by decide +kernel, rfl, by decide +kernel, by decide +kernel⟩
noncomputable def mlaw_b1 : Ms :=
  (mIfS (mNot (mTest (mL f_law_is_judged (aCons (mVar 3) (aCons (mVar 4) (aCons (mVar 5) (aCons (mVar 2) (aCons (mVar 11) (aCons (mVar 12) aNil))))))))) (mRet (mC (.bl false))) mNext)
noncomputable def mlaw_b2 : Ms :=
  (mIfS (mAnd (mTest (mOp fGt (mL fLen (aCons (mVar 6) aNil)) (mC (.int 0)))) (mNot (mTest (mL f_law_one_turn (aCons (mVar 1) (aCons (mVar 6) (aCons (mVar 3) (aCons (mVar 4) (aCons (mVar 5) (aCons (mVar 2) aNil)))))))))) (mRet (mC (.bl false))) mNext)
noncomputable def mlaw : Ms :=
  (mSeq (mSet 2 (mL f_law_draw (aCons (mVar 1) (aCons (mC (.int 4)) aNil))))
  (mSeq (mSet 3 (mL fMax2 (aCons (mC (.int 1)) (aCons (mOp fAdd (mVar 2) (mL f_law_pick (aCons (mVar 1) (aCons (mL fLst (aCons (mC (.int 2)) (aCons (mC (.int 3)) (aCons (mC (.int 4)) (aCons (mC (.int 1)) (aCons (mC (.int 5)) (aCons (mC (.int 7)) (aCons (mC (.int 0)) aNil)))))))) aNil)))) aNil))))
  (mSeq (mSet 4 (mL f_law_draw (aCons (mVar 1) (aCons (mC (.int 4)) aNil))))
  (mSeq (mSet 5 (mL f_law_draw (aCons (mVar 1) (aCons (mC (.int 4)) aNil))))
  (mSeq (mIfS (mTest (mL f_law_rare (aCons (mVar 1) (aCons (mC (.int 13)) aNil)))) (mSet 3 (mOp fSub (mC (.int 24)) (mL f_law_draw (aCons (mVar 1) (aCons (mC (.int 6)) aNil))))) mNext)
  (mSeq (mSet 6 (mL f_law_totals (aCons (mVar 3) (aCons (mVar 4) (aCons (mVar 5) (aCons (mVar 2) aNil))))))
  (mSeq (mSet 7 (mL fworst_bar (aCons (mVar 3) (aCons (mVar 4) (aCons (mVar 5) (aCons (mVar 2) aNil))))))
  (mSeq (mIfS (mOr (mNot (mTest (mL fIsi (aCons (mVar 7) (aCons (mC (.ty "tuple")) aNil))))) (mNot (mTest (mL fAll (aCons (mComp (mIt (mVar 7)) (gN 14) mYes (mL f_law_is_ints (aCons (mVar 14) aNil)) [14]) aNil))))) (mRet (mC (.bl false))) mNext)
  (mSeq (mIfS (mTest (mOp fNe (mVar 7) (mL fTupOf (aCons (mComp (mIt (mL fSortDT (aCons (mVar 6) aNil))) (gN 15) mYes (mL fTup (aCons (mOp fSub_ (mVar 15) (mC (.int 0))) (aCons (mOp fSub_ (mVar 15) (mC (.int 1))) (aCons (mOp fSub_ (mVar 6) (mVar 15)) aNil)))) [15]) aNil)))) (mRet (mC (.bl false))) mNext)
  (mSeq (mSet 8 (mL f_law_left (aCons (mVar 6) (aCons (mVar 3) (aCons (mVar 2) (aCons (mC (.int 0)) (aCons (mUn fNeg (mC (.int 1))) aNil)))))))
  (mSeq (mSet 9 (mL fLst (aCons (mL fTup (aCons (mVar 8) (aCons (mVar 7) aNil))) (aCons (mL fTup (aCons (mOp fSub (mVar 8) (mC (.int 1))) (aCons (mVar 7) aNil))) (aCons (mL fTup (aCons (mOp fAdd (mVar 8) (mC (.int 3))) (aCons (mVar 7) aNil))) (aCons (mL fTup (aCons (mVar 8) (aCons (mOp fAdd (mVar 7) (mL fTup (aCons (mL fTup (aCons (mC (.int 0)) (aCons (mUn fNeg (mC (.int 1))) (aCons (mVar 8) aNil)))) aNil))) aNil))) (aCons (mL fTup (aCons (mC .non) (aCons (mVar 7) aNil))) aNil)))))))
  (mSeq (mSet 9 (mOp fAdd (mVar 9) (mL fLst (aCons (mL fTup (aCons (mVar 8) (aCons (mC .non) aNil))) (aCons (mL fTup (aCons (mVar 8) (aCons (mC (.str ("bar" : Str))) aNil))) (aCons (mL fTup (aCons (mVar 8) (aCons (mL fTup (aCons (mVar 8) aNil)) aNil))) (aCons (mL fTup (aCons (mVar 8) (aCons (mL fTup (aCons (mL fTup aNil) aNil)) aNil))) (aCons (mL fTup (aCons (mC (.str ("0" : Str))) (aCons (mVar 7) aNil))) (aCons (mL fTup (aCons (mC (.int 0)) (aCons (mL fTup aNil) aNil))) (aCons (mL fTup (aCons (mUn fNeg (mC (.int 1))) (aCons (mL fTup aNil) aNil))) aNil))))))))))
  (mSeq (mSet 9 (mOp fAdd (mVar 9) (mL fLst (aCons (mL fTup (aCons (mVar 8) (aCons (mSl (mVar 7) (mP (mC (.int 1))) mNoP) aNil))) (aCons (mL fTup (aCons (mVar 8) (aCons (mSl (mVar 7) mNoP (mP (mUn fNeg (mC (.int 1))))) aNil))) (aCons (mL fTup (aCons (mL fTup (aCons (mVar 8) aNil)) (aCons (mVar 7) aNil))) aNil))))))
  (mSeq (mDrop (mBM "list" fApp (mVar 9) (aCons (mL fTup (aCons (mVar 8) (aCons (mL fTupOf (aCons (mL f_law_shuffled (aCons (mVar 1) (aCons (mL fLstOf (aCons (mVar 7) aNil)) aNil))) aNil)) aNil))) aNil)))
  (mSeq (mIfS (mTest (mOp fGt (mL fLen (aCons (mVar 7) aNil)) (mC (.int 0)))) (mSeq (mSet 10 (mL f_law_draw (aCons (mVar 1) (aCons (mL fLen (aCons (mVar 7) aNil)) aNil))))
  (mDrop (mBM "list" fApp (mVar 9) (aCons (mL fTup (aCons (mVar 8) (aCons (mOp fAdd (mOp fAdd (mSl (mVar 7) mNoP (mP (mVar 10))) (mL fTup (aCons (mL fTup (aCons (mOp fSub_ (mOp fSub_ (mVar 7) (mVar 10)) (mC (.int 0))) (aCons (mOp fSub_ (mOp fSub_ (mVar 7) (mVar 10)) (mC (.int 1))) (aCons (mOp fSub (mOp fSub_ (mOp fSub_ (mVar 7) (mVar 10)) (mC (.int 2))) (mC (.int 1))) aNil)))) aNil))) (mSl (mVar 7) (mP (mOp fAdd (mVar 10) (mC (.int 1)))) mNoP)) aNil))) aNil)))) mNext)
  (mSeq (mFor (mIt (mVar 9)) (gTp 2 (gsCons (gN 11) (gsCons (gN 12) gsNil)))
    mlaw_b1)
  (mSeq (mFor (iRg fRg1 (aCons (mC (.int 4)) aNil)) (gN 13)
    mlaw_b2)
  (mRet (mC (.bl true))))))))))))))))))))
theorem oklaw {P : Program} {w : World} {K : PySem.W.Frag} {mg : Str → Option Value} {base : Heap} {fa fb : Addr} {fd fdb : FuncData} (B : Bi mg) (F : FnP K "law" slaw fa fd) (FB : FnP K "_law_begin" s_law_begin fb fdb) (gB : mg "_law_begin" = some (.ref fb)) (D_law_draw : DefOk P w K mg base 1 "_law_draw" ["d", "many"] f_law_draw) (D_law_pick : DefOk P w K mg base 2 "_law_pick" ["d", "row"] f_law_pick) (D_law_rare : DefOk P w K mg base 2 "_law_rare" ["d", "many"] f_law_rare) (D_law_totals : DefOk P w K mg base 2 "_law_totals" ["ticks", "late", "lost", "lag"] f_law_totals) (Dworst_bar : DefOk P w K mg base 5 "worst_bar" ["ticks", "d", "l", "lag"] fworst_bar) (D_law_is_ints : DefOk P w K mg base 2 "_law_is_ints" ["row"] f_law_is_ints) (D_law_left : DefOk P w K mg base 1 "_law_left" ["table", "ticks", "lag", "frame", "stamp"] f_law_left) (D_law_shuffled : DefOk P w K mg base 2 "_law_shuffled" ["d", "row"] f_law_shuffled) (D_law_is_judged : DefOk P w K mg base 6 "_law_is_judged" ["ticks", "late", "lost", "lag", "total", "rows"] f_law_is_judged) (D_law_one_turn : DefOk P w K mg base 7 "_law_one_turn" ["d", "table", "ticks", "late", "lost", "lag"] f_law_one_turn)
    (M : ∀ ns : List Int, ns.length ≤ 63 → ∃ S', mlaw (none :: some (.loc 1) :: List.replicate 14 none) (begSto ns) = .ret (.bl true) S') : FnOk P w K mg base CX0 8 fa fd ["script"] (spLaw K) := by
  have GB : FnOk P w K mg base CX0 1 fb fdb ["script"] (spBegin K) := ok_law_begin B FB
  have bB : Binds K fdb ["script"] [] := FB.bindsN fun _ _ _ _ _ _ us hl => match us, hl with | [_], _ => rfl
  refine F.ok sclaw (fun vs H Q E h => ?_) (fun cdv A outer s H vs Q E hr h => ⟨_, PSs.nox (pss_cons (ps_set (i := 1) sclaw.nd rfl (.inl rfl) (pe_call (E := E0) GB (hr.mono (by decide)) (by rfl) gB FB.kp bB .nil pass0 (pa_cons (pv 0) pa_nil))) (?_ : FSs _ E _ mlaw)), law_reads (N := Nlaw) rfl M h⟩)
  · obtain ⟨a, ns, rfl, _⟩ := h
    rfl
  · exact (fss_cons (fs_set (i := 2) sclaw.nd rfl (.inl rfl) (fe_callD D_law_draw hr (by rfl) (fa_cons (fv 1) (fa_cons fe_int fa_nil))))
    (fss_cons (fs_set (i := 3) sclaw.nd rfl (.inl rfl) (fe_callB (call_max2F rfl) (by rfl) B.b_max (by decide +kernel) (fa_cons fe_int (fa_cons (fe_op op_addF (fv 2) (fe_callD D_law_pick hr (by rfl) (fa_cons (fv 1) (fa_cons (fe_lst (fa_cons fe_int (fa_cons fe_int (fa_cons fe_int (fa_cons fe_int (fa_cons fe_int (fa_cons fe_int (fa_cons fe_int fa_nil)))))))) fa_nil)))) fa_nil))))
    (fss_cons (fs_set (i := 4) sclaw.nd rfl (.inl rfl) (fe_callD D_law_draw hr (by rfl) (fa_cons (fv 1) (fa_cons fe_int fa_nil))))
    (fss_cons (fs_set (i := 5) sclaw.nd rfl (.inl rfl) (fe_callD D_law_draw hr (by rfl) (fa_cons (fv 1) (fa_cons fe_int fa_nil))))
    (fss_cons (fs_if (ft_val (fe_callD D_law_rare hr (by rfl) (fa_cons (fv 1) (fa_cons fe_int fa_nil)))) (fss_one (fs_set (i := 3) sclaw.nd rfl (.inl rfl) (fe_op op_subF fe_int (fe_callD D_law_draw hr (by rfl) (fa_cons (fv 1) (fa_cons fe_int fa_nil)))))) fss_nil)
    (fss_cons (fs_set (i := 6) sclaw.nd rfl (.inr rfl) (fe_callD D_law_totals hr (by rfl) (fa_cons (fv 3) (fa_cons (fv 4) (fa_cons (fv 5) (fa_cons (fv 2) fa_nil))))))
    (fss_cons (fs_set (i := 7) sclaw.nd rfl (.inl rfl) (fe_callD Dworst_bar hr (by rfl) (fa_cons (fv 3) (fa_cons (fv 4) (fa_cons (fv 5) (fa_cons (fv 2) fa_nil))))))
    (fss_cons (fs_if (fw_pt (fw_or (ft_not (ft_val (fe_callB call_isiF (by rfl) B.b_isinstance (by decide +kernel) (fa_cons (fv 7) (fa_cons (fe_ty (by rfl) B.b_tuple (by decide +kernel)) fa_nil))))) (fw_or1 (ft_not (ft_val (fe_callB (call_allF rfl) (by rfl) B.b_all (by decide +kernel) (fa_cons (fe_lc (own := [("row", 14)]) (g := (gN 14)) (t := mYes) rfl sclaw.nd (fi_any (fv 7)) (blkOk_by (N := Nlaw) (sc := defScope slaw) (by decide +kernel)) (fun _ _ _ _ _ => (fg_name (i := 14) sclaw.nd rfl (.inl rfl))) (fun _ _ _ _ _ => fts_nil) (fun _ _ _ _ _ => (fe_callD D_law_is_ints hr (by rfl) (fa_cons (fv 14) fa_nil)))) fa_nil))))))) (fss_one (fs_ret fe_bl)) fss_nil)
    (fss_cons (fs_if (ft_cmp (op_neF hr.units) (fv 7) (fe_callTy call_tupF (by rfl) B.b_tuple (by decide +kernel) (fa_cons (fe_lc (own := [("pair", 15)]) (g := (gN 15)) (t := mYes) rfl sclaw.nd (fi_any (fe_callB (call_SortDT rfl) (by rfl) B.b_sorted (by decide +kernel) (fa_cons (fv 6) fa_nil))) (blkOk_by (N := Nlaw) (sc := defScope slaw) (by decide +kernel)) (fun _ _ _ _ _ => (fg_name (i := 15) sclaw.nd rfl (.inl rfl))) (fun _ _ _ _ _ => fts_nil) (fun _ _ _ _ _ => (fe_tup (fa_cons (fe_sub (hu_of hr) (fv 15) fe_int (fun _ _ => rfl)) (fa_cons (fe_sub (hu_of hr) (fv 15) fe_int (fun _ _ => rfl)) (fa_cons (fe_sub (hu_of hr) (fv 6) (fv 15) (fun _ _ => rfl)) fa_nil)))))) fa_nil)) (nomark _)) (fss_one (fs_ret fe_bl)) fss_nil)
    (fss_cons (fs_set (i := 8) sclaw.nd rfl (.inl rfl) (fe_callD D_law_left hr (by rfl) (fa_cons (fv 6) (fa_cons (fv 3) (fa_cons (fv 2) (fa_cons fe_int (fa_cons (fe_un un_negF fe_int) fa_nil)))))))
    (fss_cons (fs_set (i := 9) sclaw.nd rfl (.inl rfl) (fe_lst (fa_cons (fe_tup (fa_cons (fv 8) (fa_cons (fv 7) fa_nil))) (fa_cons (fe_tup (fa_cons (fe_op op_subF (fv 8) fe_int) (fa_cons (fv 7) fa_nil))) (fa_cons (fe_tup (fa_cons (fe_op op_addF (fv 8) fe_int) (fa_cons (fv 7) fa_nil))) (fa_cons (fe_tup (fa_cons (fv 8) (fa_cons (fe_op op_addF (fv 7) (fe_tup (fa_cons (fe_tup (fa_cons fe_int (fa_cons (fe_un un_negF fe_int) (fa_cons (fv 8) fa_nil)))) fa_nil))) fa_nil))) (fa_cons (fe_tup (fa_cons fe_non (fa_cons (fv 7) fa_nil))) fa_nil)))))))
    (fss_cons (fs_set (i := 9) sclaw.nd rfl (.inl rfl) (fe_op op_addF (fv 9) (fe_lst (fa_cons (fe_tup (fa_cons (fv 8) (fa_cons fe_non fa_nil))) (fa_cons (fe_tup (fa_cons (fv 8) (fa_cons fe_str fa_nil))) (fa_cons (fe_tup (fa_cons (fv 8) (fa_cons (fe_tup (fa_cons (fv 8) fa_nil)) fa_nil))) (fa_cons (fe_tup (fa_cons (fv 8) (fa_cons (fe_tup (fa_cons (fe_tup fa_nil) fa_nil)) fa_nil))) (fa_cons (fe_tup (fa_cons fe_str (fa_cons (fv 7) fa_nil))) (fa_cons (fe_tup (fa_cons fe_int (fa_cons (fe_tup fa_nil) fa_nil))) (fa_cons (fe_tup (fa_cons (fe_un un_negF fe_int) (fa_cons (fe_tup fa_nil) fa_nil))) fa_nil))))))))))
    (fss_cons (fs_set (i := 9) sclaw.nd rfl (.inl rfl) (fe_op op_addF (fv 9) (fe_lst (fa_cons (fe_tup (fa_cons (fv 8) (fa_cons (fe_slice (fv 7) (fp_some fe_int) fp_none) fa_nil))) (fa_cons (fe_tup (fa_cons (fv 8) (fa_cons (fe_slice (fv 7) fp_none (fp_some (fe_un un_negF fe_int))) fa_nil))) (fa_cons (fe_tup (fa_cons (fe_tup (fa_cons (fv 8) fa_nil)) (fa_cons (fv 7) fa_nil))) fa_nil))))))
    (fss_cons (fs_expr (fe_bm PySem.F.plainAttrs_list PySem.F.slot_list_append PySem.F.type_list_append mt_appF (fv 9) (fa_cons (fe_tup (fa_cons (fv 8) (fa_cons (fe_callTy call_tupF (by rfl) B.b_tuple (by decide +kernel) (fa_cons (fe_callD D_law_shuffled hr (by rfl) (fa_cons (fv 1) (fa_cons (fe_callTy (call_lstF rfl) (by rfl) B.b_list (by decide +kernel) (fa_cons (fv 7) fa_nil)) fa_nil))) fa_nil)) fa_nil))) fa_nil)))
    (fss_cons (fs_if (ft_cmp op_gtF (fe_callB call_lenF (by rfl) B.b_len (by decide +kernel) (fa_cons (fv 7) fa_nil)) fe_int (nomark _)) (fss_cons (fs_set (i := 10) sclaw.nd rfl (.inl rfl) (fe_callD D_law_draw hr (by rfl) (fa_cons (fv 1) (fa_cons (fe_callB call_lenF (by rfl) B.b_len (by decide +kernel) (fa_cons (fv 7) fa_nil)) fa_nil))))
    (fss_one (fs_expr (fe_bm PySem.F.plainAttrs_list PySem.F.slot_list_append PySem.F.type_list_append mt_appF (fv 9) (fa_cons (fe_tup (fa_cons (fv 8) (fa_cons (fe_op op_addF (fe_op op_addF (fe_slice (fv 7) fp_none (fp_some (fv 10))) (fe_tup (fa_cons (fe_tup (fa_cons (fe_sub (hu_of hr) (fe_sub (hu_of hr) (fv 7) (fv 10) (fun _ _ => rfl)) fe_int (fun _ _ => rfl)) (fa_cons (fe_sub (hu_of hr) (fe_sub (hu_of hr) (fv 7) (fv 10) (fun _ _ => rfl)) fe_int (fun _ _ => rfl)) (fa_cons (fe_op op_subF (fe_sub (hu_of hr) (fe_sub (hu_of hr) (fv 7) (fv 10) (fun _ _ => rfl)) fe_int (fun _ _ => rfl)) fe_int) fa_nil)))) fa_nil))) (fe_slice (fv 7) (fp_some (fe_op op_addF (fv 10) fe_int)) fp_none)) fa_nil))) fa_nil))))) fss_nil)
    (fss_cons (fs_for PassesOwn.never rfl (fi_any (fv 9)) (fg_tup rfl (fgs_cons (fg_name (i := 11) sclaw.nd rfl (.inl rfl)) (fgs_cons (fg_name (i := 12) sclaw.nd rfl (.inl rfl)) fgs_nil)) (by rfl)) (fss_one (fs_if (ft_not (ft_val (fe_callD D_law_is_judged hr (by rfl) (fa_cons (fv 3) (fa_cons (fv 4) (fa_cons (fv 5) (fa_cons (fv 2) (fa_cons (fv 11) (fa_cons (fv 12) fa_nil))))))))) (fss_one (fs_ret fe_bl)) fss_nil)))
    (fss_cons (fs_for PassesOwn.never rfl (fi_range1 (by rfl) B.b_range (fa_cons fe_int fa_nil)) (fg_name (i := 13) sclaw.nd rfl (.inl rfl)) (fss_one (fs_if (fw_pt (fw_and (ft_cmp op_gtF (fe_callB call_lenF (by rfl) B.b_len (by decide +kernel) (fa_cons (fv 6) fa_nil)) fe_int (nomark _)) (fw_and1 (ft_not (ft_val (fe_callD D_law_one_turn hr (by rfl) (fa_cons (fv 1) (fa_cons (fv 6) (fa_cons (fv 3) (fa_cons (fv 4) (fa_cons (fv 5) (fa_cons (fv 2) fa_nil)))))))))))) (fss_one (fs_ret fe_bl)) fss_nil)))
    (fss_one (fs_ret fe_bl)))))))))))))))))))
end G
set_option linter.all false
set_option maxRecDepth 100000
set_option maxHeartbeats 4000000
namespace G
open PySem PySem.Spec PyProof.Rows L2 FL
variable [KMap]
/-! ### the spread -/
theorem lateness_eq (a b : Int) (S : Sto) : flateness [.int a, .int b] S = .ok (.int (a + b)) S := by
  simp [flateness, runB, mlateness, trim_self]
theorem wait_eq (a b : Int) (S : Sto) : fwait [.int a, .int b] S = .ok (.int (3 * (a + b) + 2)) S := by
  simp [fwait, runB, mwait, trim_self]
theorem frames_eq (t a b : Int) (S : Sto) : fframes_of [.int t, .int a, .int b] S = .ok (.int (t + (3 * (a + b) + 3))) S := by
  simp [fframes_of, runB, mframes_of, wait_eq, trim_self]; omega
/-- an instance of Spread: length, delay, late, lag, frames -/
def sprO (t d l g : Int) : O := .ins 0 [.int t, .int d, .int (d + l), .int g, .int (t + (3 * (d + l) + 3))]
theorem init_eq (t d l g : Int) (S : Sto) : fSpread____init__ [.loc S.length, .int t, .int d, .int l, .int g] (S ++ [.ins 0 []]) = .ok .non (S ++ [sprO t d l g]) := by
  simp [fSpread____init__, runB, mSpread____init__, putFd, lateness_eq, frames_eq, sprO]
  exact trim_last (by simp) (by simp [O.und])
section
variable {S : Sto} {n : Nat} {t d l g : Int} (hS : S[n]? = some (sprO t d l g))
include hS
theorem over_eq (stamp : Int) : fSpread__is_over [.loc n, .int stamp] S = .ok (.bl (decide (t - 1 ≤ stamp + g))) S := by
  unfold sprO at hS
  simp [fSpread__is_over, runB, mSpread__is_over, fldD, hS, trim_self]
theorem wait_can_eq (frame stamp : Int) : fSpread__can_wait [.loc n, .int frame, .int stamp] S = .ok (.bl (decide (frame ≤ stamp + (d + l)))) S := by
  unfold sprO at hS
  simp [fSpread__can_wait, runB, mSpread__can_wait, fldD, hS, trim_self]
theorem gain_eq (frame stamp : Int) : fSpread__gain [.loc n, .int frame, .int stamp] S = .ok (.int (max 0 (min frame t - (stamp + 1 + g)))) S := by
  unfold sprO at hS
  have h1 : (if t < frame then t else frame) = min frame t := by omega
  have h2 : (if 0 < min frame t - (stamp + 1 + g) then min frame t - (stamp + 1 + g) else 0) = max 0 (min frame t - (stamp + 1 + g)) := by omega
  simp [fSpread__gain, runB, mSpread__gain, fldD, hS, trim_self, h1]
  try omega
end
end G
set_option linter.all false
set_option maxRecDepth 100000
set_option maxHeartbeats 4000000
namespace G
/-! ### the plain law: totals, rows of events, the greedy row -/
structure Par where
  T : Int
  D : Int
  L : Int
  g : Int
  hL : 0 ≤ L
  hD : 0 ≤ D
  hDL : D ≤ L
  hg : 0 ≤ g
  hT : 1 ≤ T
variable (p : Par)
def Par.F : Int := p.T + p.L + 1
def Par.over (s : Int) : Prop := p.T - 1 ≤ s + p.g
instance (s) : Decidable (p.over s) := inferInstanceAs (Decidable (_ ≤ _))
def Par.gain (f s : Int) : Int := max 0 (min f p.T - (s + 1 + p.g))
def Par.lo (f s : Int) : Int := max (s + 1) (f - p.D)
def rgI (lo : Int) (n : Nat) : List Int := (List.range n).map fun (i : Nat) => lo + (i : Int)
theorem mem_rgI {lo x : Int} {n : Nat} : x ∈ rgI lo n ↔ lo ≤ x ∧ x < lo + n := by
  unfold rgI
  rw [List.mem_map]
  constructor
  · rintro ⟨i, hi, rfl⟩
    have := List.mem_range.mp hi
    omega
  · rintro ⟨h1, h2⟩
    exact ⟨(x - lo).toNat, List.mem_range.mpr (by omega), by omega⟩
def Par.news (f s : Int) : List Int := rgI (p.lo f s) (f + 1 - p.lo f s).toNat
theorem mem_news {f s x : Int} : x ∈ p.news f s ↔ p.lo f s ≤ x ∧ x ≤ f := by
  unfold Par.news
  rw [mem_rgI]
  omega
def mx (h : Int → Int) (b : Int) (l : List Int) : Int := l.foldl (fun m x => max m (h x)) b
theorem mx_base (h : Int → Int) : ∀ (l : List Int) (b : Int), b ≤ mx h b l
  | [], b => Int.le_refl _
  | x :: r, b => by
    have := mx_base h r (max b (h x))
    show b ≤ mx h (max b (h x)) r
    omega
theorem mx_mem (h : Int → Int) : ∀ (l : List Int) (b x : Int), x ∈ l → h x ≤ mx h b l
  | y :: r, b, x, hx => by
    show h x ≤ mx h (max b (h y)) r
    rcases List.mem_cons.mp hx with rfl | hx
    · have := mx_base h r (max b (h x)); omega
    · exact mx_mem h r _ x hx
theorem mx_at (h : Int → Int) : ∀ (l : List Int) (b : Int), mx h b l = b ∨ ∃ x ∈ l, mx h b l = h x
  | [], b => .inl rfl
  | y :: r, b => by
    rcases mx_at h r (max b (h y)) with e | ⟨x, hx, e⟩
    · by_cases hb : h y ≤ b
      · left; show mx h (max b (h y)) r = b; rw [e]; omega
      · right; exact ⟨y, by simp, by show mx h (max b (h y)) r = h y; rw [e]; omega⟩
    · right; exact ⟨x, by simp [hx], e⟩
/-- the greatest total from frame F - k and newest letter s -/
def Par.V : Nat → Int → Int
  | 0, _ => 0
  | k + 1, s => if p.over s then 0 else mx (fun n => p.gain (p.F - (k + 1 : Nat)) s + Par.V k n) (if p.F - (k + 1 : Nat) ≤ s + p.L then Par.V k s else 0) (p.news (p.F - (k + 1 : Nat)) s)
theorem gain_pos (f s : Int) : 0 ≤ p.gain f s := by unfold Par.gain; omega
theorem V_pos : ∀ (k : Nat) (s : Int), 0 ≤ p.V k s
  | 0, _ => Int.le_refl _
  | k + 1, s => by
    unfold Par.V
    split
    · exact Int.le_refl _
    · refine Int.le_trans ?_ (mx_base _ _ _)
      split
      · exact V_pos k s
      · exact Int.le_refl _
theorem V_over (k : Nat) {s : Int} (h : p.over s) : p.V k s = 0 := by
  cases k with
  | zero => rfl
  | succ k => unfold Par.V; rw [if_pos h]
theorem V_wait {k : Nat} {s : Int} (h : p.F - (k + 1 : Nat) ≤ s + p.L) (ho : ¬ p.over s) : p.V k s ≤ p.V (k + 1) s := by
  conv => rhs; unfold Par.V
  rw [if_neg ho, if_pos h]
  exact mx_base _ _ _
theorem V_hear {k : Nat} {s n : Int} (hn : n ∈ p.news (p.F - (k + 1 : Nat)) s) (ho : ¬ p.over s) : p.gain (p.F - (k + 1 : Nat)) s + p.V k n ≤ p.V (k + 1) s := by
  conv => rhs; unfold Par.V
  rw [if_neg ho]
  exact mx_mem (fun n => p.gain (p.F - (k + 1 : Nat)) s + p.V k n) _ _ n hn
/-- the rows of events from frame f with newest letter s, their totals -/
inductive Par.Row : Int → Int → Int → List (Int × Int) → Prop
  | done {f s} : p.over s → Par.Row f s 0 []
  | hear {f s now n t e} : ¬ p.over s → f ≤ now → now ≤ s + 1 + p.L → p.lo now s ≤ n → n ≤ now → Par.Row (now + 1) n t e → Par.Row f s (p.gain now s + t) ((now, n) :: e)
theorem Row.later {f f' s t e} (h : p.Row f s t e) (hf : ∀ now n r, e = (now, n) :: r → f' ≤ now) : p.Row f' s t e := by
  cases h with
  | done ho => exact .done ho
  | hear a b c d e h => exact .hear a (hf _ _ _ rfl) c d e h
theorem rowA : ∀ (k : Nat) (s t : Int) (e : List (Int × Int)), p.F - k ≤ s + 1 + p.L → p.Row (p.F - k) s t e → t ≤ p.V k s := by
  intro k
  induction k with
  | zero =>
    intro s t e hs h
    cases h with
    | done ho => exact V_pos p 0 s
    | hear ho => exact absurd (show p.over s by have := p.hg; unfold Par.over; unfold Par.F at hs; omega) ho
  | succ k ih =>
    intro s t e hs h
    cases h with
    | done ho => exact V_pos p _ s
    | @hear _ _ now n t e ho h1 h2 h3 h4 h5 =>
      by_cases he : now = p.F - (k + 1 : Nat)
      · subst he
        have e1 : p.F - ((k + 1 : Nat) : Int) + 1 = p.F - (k : Nat) := by omega
        rw [e1] at h5
        have := ih n t e (by have := p.hDL; unfold Par.lo at h3; omega) h5
        have := V_hear p ((mem_news p).mpr ⟨h3, h4⟩) ho
        omega
      · have e2 : p.F - (k : Nat) ≤ now := by omega
        have h6 : p.Row (p.F - (k : Nat)) s (p.gain now s + t) ((now, n) :: e) := .hear ho e2 h2 h3 h4 h5
        have := ih s _ _ (by omega) h6
        have := V_wait p (k := k) (s := s) (by omega) ho
        omega
end G
set_option linter.all false
set_option maxRecDepth 100000
set_option maxHeartbeats 4000000
namespace G
variable (p : Par)
/-- the greedy row: wait as long as nothing is lost, then the least letter that fits -/
def Par.gr : Nat → Int → List (Int × Int)
  | 0, _ => []
  | k + 1, s => if p.over s then [] else if p.F - (k + 1 : Nat) ≤ s + p.L ∧ p.V k s = p.V (k + 1) s then Par.gr k s else
    match (p.news (p.F - (k + 1 : Nat)) s).find? (fun n => decide (p.gain (p.F - (k + 1 : Nat)) s + p.V k n = p.V (k + 1) s)) with
    | some n => (p.F - (k + 1 : Nat), n) :: Par.gr k n
    | none => []
/-- something fits where waiting loses -/
theorem fits (k : Nat) (s : Int) (hs : p.F - (k + 1 : Nat) ≤ s + 1 + p.L) (hs' : s + 1 ≤ p.F - (k + 1 : Nat)) (ho : ¬ p.over s) (hw : ¬ (p.F - (k + 1 : Nat) ≤ s + p.L ∧ p.V k s = p.V (k + 1) s)) :
    ∃ n, (p.news (p.F - (k + 1 : Nat)) s).find? (fun n => decide (p.gain (p.F - (k + 1 : Nat)) s + p.V k n = p.V (k + 1) s)) = some n := by
  have hex : ∃ n ∈ p.news (p.F - (k + 1 : Nat)) s, p.gain (p.F - (k + 1 : Nat)) s + p.V k n = p.V (k + 1) s := by
    have hf : p.F - (k + 1 : Nat) ∈ p.news (p.F - (k + 1 : Nat)) s := by rw [mem_news]; have := p.hD; unfold Par.lo; omega
    have hV : p.V (k + 1) s = mx (fun n => p.gain (p.F - (k + 1 : Nat)) s + p.V k n) (if p.F - (k + 1 : Nat) ≤ s + p.L then p.V k s else 0) (p.news (p.F - (k + 1 : Nat)) s) := by
      conv => lhs; unfold Par.V
      rw [if_neg ho]
    rcases mx_at (fun n => p.gain (p.F - (k + 1 : Nat)) s + p.V k n) (p.news (p.F - (k + 1 : Nat)) s) (if p.F - (k + 1 : Nat) ≤ s + p.L then p.V k s else 0) with e | ⟨n, hn, e⟩
    · rw [← hV] at e
      by_cases h : p.F - (k + 1 : Nat) ≤ s + p.L
      · rw [if_pos h] at e
        exact absurd ⟨h, e.symm⟩ hw
      · rw [if_neg h] at e
        have h1 := V_hear p hf ho
        have h2 := gain_pos p (p.F - (k + 1 : Nat)) s
        have h3 := V_pos p k (p.F - (k + 1 : Nat))
        exact ⟨_, hf, by omega⟩
    · rw [← hV] at e
      exact ⟨n, hn, e.symm⟩
  cases h : (p.news (p.F - (k + 1 : Nat)) s).find? (fun n => decide (p.gain (p.F - (k + 1 : Nat)) s + p.V k n = p.V (k + 1) s)) with
  | some n => exact ⟨n, rfl⟩
  | none =>
    obtain ⟨n, hn, e⟩ := hex
    exact absurd (decide_eq_true e) (List.find?_eq_none.mp h n hn)
theorem rowB : ∀ (k : Nat) (s : Int), p.F - k ≤ s + 1 + p.L → s + 1 ≤ p.F - k → p.Row (p.F - k) s (p.V k s) (p.gr k s) := by
  intro k
  induction k with
  | zero =>
    intro s hs _
    exact .done (show p.over s by have := p.hg; unfold Par.over; unfold Par.F at hs; omega)
  | succ k ih =>
    intro s hs hs'
    unfold Par.gr
    by_cases ho : p.over s
    · rw [if_pos ho, V_over p _ ho]; exact .done ho
    · rw [if_neg ho]
      by_cases hw : p.F - (k + 1 : Nat) ≤ s + p.L ∧ p.V k s = p.V (k + 1) s
      · rw [if_pos hw, ← hw.2]
        refine Row.later p (ih s (by omega) (by omega)) fun now n r e => ?_
        have hr := ih s (by omega) (by omega)
        rw [e] at hr
        generalize p.V k s = w at hr
        cases hr with
        | hear _ h _ _ _ _ => omega
      · rw [if_neg hw]
        obtain ⟨n, hn⟩ := fits p k s hs hs' ho hw
        rw [hn]
        have hm := (mem_news p).mp (List.mem_of_find?_eq_some hn)
        have he : p.gain (p.F - (k + 1 : Nat)) s + p.V k n = p.V (k + 1) s := by have := List.find?_some hn; simpa using this
        rw [← he]
        have e1 : p.F - ((k + 1 : Nat) : Int) + 1 = p.F - (k : Nat) := by omega
        refine .hear ho (Int.le_refl _) hs hm.1 hm.2 ?_
        rw [e1]
        have hlo := hm.1
        unfold Par.lo at hlo
        have := p.hDL
        exact ih n (by omega) (by omega)
/-- earlier in the order: later frames first, then lesser letters -/
def leE : List (Int × Int) → List (Int × Int) → Prop
  | [], _ => True
  | _ :: _, [] => False
  | a :: r, b :: q => b.1 < a.1 ∨ (a.1 = b.1 ∧ (a.2 < b.2 ∨ (a.2 = b.2 ∧ leE r q)))
theorem rowC : ∀ (k : Nat) (s : Int) (e : List (Int × Int)), p.F - k ≤ s + 1 + p.L → s + 1 ≤ p.F - k → p.Row (p.F - k) s (p.V k s) e → leE (p.gr k s) e := by
  intro k
  induction k with
  | zero => intro s e _ _ _; unfold Par.gr; trivial
  | succ k ih =>
    intro s e hs hs' h
    unfold Par.gr
    by_cases ho : p.over s
    · rw [if_pos ho]; trivial
    · rw [if_neg ho]
      generalize hv : p.V (k + 1) s = v at h
      cases h with
      | done ho' => exact absurd ho' ho
      | @hear _ _ now n t e _ h1 h2 h3 h4 h5 =>
        by_cases he : now = p.F - (k + 1 : Nat)
        · subst he
          have e1 : p.F - ((k + 1 : Nat) : Int) + 1 = p.F - (k : Nat) := by omega
          rw [e1] at h5
          have hn := (mem_news p).mpr ⟨h3, h4⟩
          have hlo := h3
          unfold Par.lo at hlo
          have hDL := p.hDL
          have hA := rowA p k n t e (by omega) h5
          have hH := V_hear p hn ho
          have ht : t = p.V k n := by omega
          by_cases hw : p.F - (k + 1 : Nat) ≤ s + p.L ∧ p.V k s = p.gain (p.F - (k + 1 : Nat)) s + t
          · rw [if_pos hw]
            have hr := rowB p k s (by omega) (by omega)
            revert hr
            generalize p.gr k s = q
            generalize p.V k s = w
            intro hr
            cases hr with
            | done ho' => exact absurd ho' ho
            | hear _ g1 _ _ _ _ => exact .inl (by show p.F - ((k + 1 : Nat) : Int) < _; omega)
          · rw [if_neg hw]
            have hw' : ¬ (p.F - (k + 1 : Nat) ≤ s + p.L ∧ p.V k s = p.V (k + 1) s) := by rw [hv]; exact hw
            obtain ⟨m, hm⟩ := fits p k s hs hs' ho hw'
            rw [hv] at hm
            rw [hm]
            refine .inr ⟨rfl, ?_⟩
            have hle : m ≤ n := by
              by_cases hlt : m ≤ n
              · exact hlt
              · have hs2 := List.find?_eq_some_iff_append.mp hm
                obtain ⟨_, as, bs, heq, hno⟩ := hs2
                have hn2 : n ∈ as := by
                  have hn3 := hn
                  rw [heq] at hn3
                  rcases List.mem_append.mp hn3 with h | h
                  · exact h
                  · exfalso
                    -- what stands behind m is not less
                    have hsorted : (p.news (p.F - (k + 1 : Nat)) s).Pairwise (· < ·) := by
                      unfold Par.news rgI
                      rw [List.pairwise_map]
                      exact List.pairwise_lt_range.imp fun {a b} hab => by omega
                    rw [heq] at hsorted
                    have h6 := (List.pairwise_append.mp hsorted).2.1
                    rcases List.mem_cons.mp h with rfl | h
                    · omega
                    · have := (List.pairwise_cons.mp h6).1 n h
                      omega
                have := hno n hn2
                simp [ht] at this
            rcases Int.lt_or_eq_of_le hle with hlt | rfl
            · exact .inl hlt
            · exact .inr ⟨rfl, ih m e (by omega) (by omega) (by rw [← ht]; exact h5)⟩
        · have e2 : p.F - (k : Nat) ≤ now := by omega
          have h6 : p.Row (p.F - (k : Nat)) s (p.gain now s + t) ((now, n) :: e) := .hear ho e2 h2 h3 h4 h5
          have hA := rowA p k s _ _ (by omega) h6
          have hW := V_wait p (k := k) (s := s) (by omega) ho
          have hEq : p.V k s = p.gain now s + t := by omega
          rw [if_pos ⟨by omega, hEq⟩]
          exact ih s _ (by omega) (by omega) (by rw [hEq]; exact h6)
end G
set_option linter.all false
set_option maxRecDepth 100000
set_option maxHeartbeats 4000000
namespace G
open PySem PySem.Spec PyProof.Rows L2 FL
variable [KMap]
/-! ### the program's table -/
theorem keysK_two (a b : Int) : keysK [.int a, .int b] = some [.inl a, .inl b] := rfl
/-- what stands in a table of totals -/
def tv (kvs : List (List Key × D)) (f s : Int) : Option D := valD kvs [.inl f, .inl s]
theorem tv_put (kvs : List (List Key × D)) (f s f' s' v : Int) : tv (putD kvs [.inl f, .inl s] (.int v)) f' s' = if f = f' ∧ s = s' then some (.int v) else tv kvs f' s' := by
  unfold tv
  rw [val_put]
  have : (([.inl f, .inl s] : List Key) = [.inl f', .inl s']) ↔ f = f' ∧ s = s' := by simp
  by_cases h : f = f' ∧ s = s'
  · rw [if_pos (this.mpr h), if_pos h]
  · rw [if_neg (fun z => h (this.mp z)), if_neg h]
section
variable {S : Sto} {n m : Nat} {t d l g : Int} {kvs : List (List Key × D)} (hS : S[n]? = some (sprO t d l g)) (hM : S[m]? = some (.dT kvs))
include hS hM
theorem total_over {f s : Int} (h : t - 1 ≤ s + g) : ftotal_of [.loc n, .loc m, .int f, .int s] S = .ok (.int 0) S := by
  have e := over_eq hS s
  have hC : metF [(0, fSpread__is_over)] (.loc n) S = some fSpread__is_over := by unfold sprO at hS; simp [metF, hS]
  simp [ftotal_of, runB, mtotal_of, hC, e, h, trim_self]
theorem total_tab {f s v : Int} (h : ¬ t - 1 ≤ s + g) (hv : tv kvs f s = some (.int v)) : ftotal_of [.loc n, .loc m, .int f, .int s] S = .ok (.int v) S := by
  have e := over_eq hS s
  have hC : metF [(0, fSpread__is_over)] (.loc n) S = some fSpread__is_over := by unfold sprO at hS; simp [metF, hS]
  have e2 := sub_dT (S := S) (n := m) (kts := kvs) (y := .tup [.int f, .int s]) hM (keysK_two f s)
  unfold tv at hv
  simp [ftotal_of, runB, mtotal_of, hC, e, h, e2, hv, sizeLine_eq, trim_self]
end
end G
set_option linter.all false
set_option maxRecDepth 100000
set_option maxHeartbeats 4000000
namespace G
open PySem PySem.Spec PyProof.Rows L2 FL
variable [KMap]
theorem app_get {S : Sto} {n : Nat} {o : O} (h : S[n]? = some o) (J : Sto) : (S ++ J)[n]? = some o := by rw [List.getElem?_append_left (lt_of_some h)]; exact h
/-- the totals by frame -/
def Par.Vf (p : Par) (f s : Int) : Int := p.V (p.F - f).toNat s
section
variable {S : Sto} {n : Nat} {t d l g : Int} (hS : S[n]? = some (sprO t d l g))
include hS
theorem stamps_eq (frame stamp : Int) (hf : -1 ≤ frame ∧ frame ≤ 1000) (hs : -1 ≤ stamp ∧ stamp ≤ 1000) (hd : 0 ≤ d ∧ d ≤ 1000) :
    fSpread__stamps [.loc n, .int frame, .int stamp] S = .ok (.loc S.length) (S ++ [.lst (rgD (max (stamp + 1) (frame - d)) (frame + 1 - max (stamp + 1) (frame - d)).toNat)]) := by
  unfold sprO at hS
  have h1 : (if stamp + 1 < frame - d then frame - d else stamp + 1) = max (stamp + 1) (frame - d) := by omega
  generalize hx : max (stamp + 1) (frame - d) = x at *
  have h2 : -4611686018427387904 ≤ x ∧ x < 4611686018427387904 := by omega
  have h3 : -4611686018427387904 ≤ frame + 1 ∧ frame + 1 < 4611686018427387904 := by omega
  have h4 : frame + 1 - x ≤ 16777216 := by omega
  generalize hN : (frame + 1 - x).toNat = N at *
  have h5 : N ≤ 16777216 := by omega
  simp [fSpread__stamps, runB, mSpread__stamps, fldD, hS, h1, h2, h3, h5, hN]
  exact trim_new (o := .lst (rgD x N)) (by simp) (by simp) (by
    simp only [O.und]
    rw [unds_all, List.all_eq_true]
    intro z hz
    unfold rgD at hz
    obtain ⟨i, _, rfl⟩ := List.mem_map.mp hz
    rfl)
end
/-- what the table promises from a frame on -/
def TabOk (p : Par) (kvs : List (List Key × D)) (f : Int) : Prop := ∀ s, -1 ≤ s → s < f → f ≤ s + 1 + p.L → ¬ p.over s → tv kvs f s = some (.int (p.Vf f s))
theorem total_eq {p : Par} {S : Sto} {n m : Nat} {l : Int} {kvs : List (List Key × D)} (hl : p.D + l = p.L) (hS : S[n]? = some (sprO p.T p.D l p.g)) (hM : S[m]? = some (.dT kvs)) {f s : Int} (hT : TabOk p kvs f) (h0 : -1 ≤ s) (h1 : s < f) (h2 : f ≤ s + 1 + p.L) :
    ftotal_of [.loc n, .loc m, .int f, .int s] S = .ok (.int (p.Vf f s)) S := by
  by_cases ho : p.over s
  · have e : p.Vf f s = 0 := V_over p _ ho
    rw [e]
    exact total_over hS hM ho
  · exact total_tab hS hM ho (hT s h0 h1 h2 ho)
end G
set_option linter.all false
set_option maxRecDepth 100000
set_option maxHeartbeats 4000000
namespace G
open PySem PySem.Spec PyProof.Rows L2 FL
variable [KMap]
theorem Vf_step (p : Par) {f s : Int} (hf : f < p.F) : p.Vf f s = if p.over s then 0 else mx (fun n => p.gain f s + p.Vf (f + 1) n) (if f ≤ s + p.L then p.Vf (f + 1) s else 0) (p.news f s) := by
  unfold Par.Vf
  obtain ⟨k, hk⟩ : ∃ k : Nat, (p.F - f).toNat = k + 1 := ⟨(p.F - f).toNat - 1, by omega⟩
  have e1 : (p.F - (f + 1)).toNat = k := by omega
  have e2 : p.F - ((k + 1 : Nat) : Int) = f := by omega
  rw [hk, e1]
  conv => lhs; unfold Par.V
  rw [e2]
theorem Vf_pos (p : Par) (f s : Int) : 0 ≤ p.Vf f s := V_pos p _ s
end G
set_option linter.all false
set_option maxRecDepth 100000
set_option maxHeartbeats 4000000
namespace G
open PySem PySem.Spec PyProof.Rows L2 FL
variable [KMap]
theorem bf_step {S : Sto} {sp be fr st : D} {found gain new v : Int} {f : Int} (hfr : fr = .int f) (e : ftotal_of [sp, be, .int (f + 1), .int new] S = .ok (.int v) S) :
    mbest_from_b1 [some sp, some be, some fr, some st, some (.int found), some (.int gain), some (.int new)] S = .nx [some sp, some be, some fr, some st, some (.int (max found (gain + v))), some (.int gain), some (.int new)] S := by
  subst hfr
  have h : (if found < gain + v then gain + v else found) = max found (gain + v) := by omega
  simp [mbest_from_b1, e, h]
theorem rgD_rgI (lo : Int) (n : Nat) : rgD lo n = (rgI lo n).map D.int := by
  unfold rgD rgI
  rw [List.map_map]; rfl
theorem mx_snoc (h : Int → Int) (b : Int) (l : List Int) (x : Int) : mx h b (l ++ [x]) = max (mx h b l) (h x) := by simp [mx]
theorem bf_loop {p : Par} {S : Sto} {n m : Nat} {l f s b : Int} {kvs : List (List Key × D)} {k : Nat} (hl : p.D + l = p.L) (hS : S[n]? = some (sprO p.T p.D l p.g)) (hM : S[m]? = some (.dT kvs)) (hK : S[k]? = some (.lst ((p.news f s).map D.int)))
    (hT : TabOk p kvs (f + 1)) (h0 : -1 ≤ s) (hf : s < f) (gn : Int) :
    ∃ y, forL (.at_ k (.lst ((p.news f s).map D.int)) ((p.news f s).map D.int)) (gN 6) mbest_from_b1 ((p.news f s).map D.int) [some (.loc n), some (.loc m), some (.int f), some (.int s), some (.int b), some (.int gn), none] S =
      .nx [some (.loc n), some (.loc m), some (.int f), some (.int s), some (.int (mx (fun x => gn + p.Vf (f + 1) x) b (p.news f s))), some (.int gn), y] S := by
  have h := for_src (src := .at_ k (.lst ((p.news f s).map D.int)) ((p.news f s).map D.int)) (g := gN 6) (b := mbest_from_b1) (σ := [some (.loc n), some (.loc m), some (.int f), some (.int s), some (.int b), some (.int gn), none]) (S := S)
    (fun i σ S' => S' = S ∧ ∃ y, σ = [some (.loc n), some (.loc m), some (.int f), some (.int s), some (.int (mx (fun x => gn + p.Vf (f + 1) x) b ((p.news f s).take i))), some (.int gn), y])
    ⟨rfl, none, rfl⟩ (fun i σ S' q => by rw [q.1]; exact hK) (by
      intro i d σ S' hd q
      obtain ⟨rfl, y, rfl⟩ := q
      have hd : ((p.news f s).map D.int)[i]? = some d := hd
      rw [List.getElem?_map, Option.map_eq_some_iff] at hd
      obtain ⟨x, hx, rfl⟩ := hd
      have hm := (mem_news p).mp (List.mem_of_getElem? hx)
      have htk : (p.news f s).take (i + 1) = (p.news f s).take i ++ [x] := by rw [List.take_add_one, hx]; rfl
      rw [htk, mx_snoc]
      have hlo := hm.1
      unfold Par.lo at hlo
      have hDL := p.hDL
      have e := total_eq (f := f + 1) (s := x) hl hS hM hT (by omega) (by omega) (by omega)
      exact ⟨_, _, .inl (nx_of (bf_step rfl e)), rfl, _, rfl⟩)
  obtain ⟨σ', S', e, rfl, y, rfl⟩ := h
  have hlen : (Src.at_ k (.lst ((p.news f s).map D.int)) ((p.news f s).map D.int)).items.length = (p.news f s).length := by simp
  rw [hlen, List.take_length] at e
  exact ⟨y, e⟩
end G
set_option linter.all false
set_option maxRecDepth 100000
set_option maxHeartbeats 4000000
namespace G
open PySem PySem.Spec PyProof.Rows L2 FL
variable [KMap]
theorem mx_neg (h : Int → Int) : ∀ (l : List Int), l ≠ [] → (∀ x ∈ l, 0 ≤ h x) → mx h (-1) l = mx h 0 l
  | [], hn, _ => absurd rfl hn
  | x :: r, _, hp => by
    have := hp x (by simp)
    show mx h (max (-1) (h x)) r = mx h (max 0 (h x)) r
    have e1 : max (-1) (h x) = h x := by omega
    have e2 : max 0 (h x) = h x := by omega
    rw [e1, e2]
/-- what the simplifier reckons: the def's body over variables -/
theorem bf_m {S S2 : Sto} {n m : Nat} {t d l g f s b gn v : Int} {L : List D} {y : Option D} (hS : S[n]? = some (sprO t d l g)) (hfr : f < t + (3 * (d + l) + 3)) (e1 : fSpread__can_wait [.loc n, .int f, .int s] S = .ok (.bl (decide (f ≤ s + (d + l)))) S)
    (e2 : f ≤ s + (d + l) → ftotal_of [.loc n, .loc m, .int (f + 1), .int s] S = .ok (.int b) S) (e2' : ¬ f ≤ s + (d + l) → b = -1)
    (e3 : fSpread__gain [.loc n, .int f, .int s] S = .ok (.int gn) S) (e4 : fSpread__stamps [.loc n, .int f, .int s] S = .ok (.loc S.length) S2) (hK : S2[S.length]? = some (.lst L))
    (e5 : forL (.at_ S.length (.lst L) L) (gN 6) mbest_from_b1 L [some (.loc n), some (.loc m), some (.int f), some (.int s), some (.int b), some (.int gn), none] S2 = .nx [some (.loc n), some (.loc m), some (.int f), some (.int s), some (.int v), some (.int gn), y] S2) :
    mbest_from [some (.loc n), some (.loc m), some (.int f), some (.int s), none, none, none] S = .ret (.int v) S2 := by
  have hc1 : metF [(0, fSpread__can_wait)] (.loc n) S = some fSpread__can_wait := by unfold sprO at hS; simp [metF, hS]
  have hc2 : metF [(0, fSpread__gain)] (.loc n) S = some fSpread__gain := by unfold sprO at hS; simp [metF, hS]
  have hc3 : metF [(0, fSpread__stamps)] (.loc n) S = some fSpread__stamps := by unfold sprO at hS; simp [metF, hS]
  have hfl : fldD [(0, 4)] (.loc n) S = some (.int (t + (3 * (d + l) + 3))) := by unfold sprO at hS; simp [fldD, hS]
  have hnf : ¬ t + (3 * (d + l) + 3) ≤ f := by omega
  by_cases h : f ≤ s + (d + l)
  · have e2 := e2 h
    simp [mbest_from, hfl, hnf, hc1, hc2, hc3, e1, e2, h, e3, e4, hK, e5]
  · have := e2' h
    subst this
    simp [mbest_from, hfl, hnf, hc1, hc2, hc3, e1, h, e3, e4, hK, e5]
theorem bf_eq {p : Par} {S : Sto} {n m : Nat} {l f s : Int} {kvs : List (List Key × D)} (hl : p.D + l = p.L) (hl0 : 0 ≤ l) (hS : S[n]? = some (sprO p.T p.D l p.g)) (hM : S[m]? = some (.dT kvs))
    (hT : TabOk p kvs (f + 1)) (h0 : -1 ≤ s) (hf : s < f) (hle : f ≤ s + 1 + p.L) (ho : ¬ p.over s) (hb1 : p.T ≤ 100) (hb2 : p.L ≤ 100) :
    fbest_from [.loc n, .loc m, .int f, .int s] S = .ok (.int (p.Vf f s)) S := by
  have hgg := p.hg
  have hDD := p.hD
  have hs1 : s < p.T := by unfold Par.over at ho; omega
  have hfF : f < p.F := by unfold Par.over at ho; unfold Par.F; omega
  have e1 := wait_can_eq hS f s
  have e3 := gain_eq hS f s
  have e4 := stamps_eq hS f s (by omega) (by omega) (by omega)
  have hL : (rgD (max (s + 1) (f - p.D)) (f + 1 - max (s + 1) (f - p.D)).toNat) = (p.news f s).map D.int := by rw [rgD_rgI]; rfl
  rw [hL] at e4
  have hK : (S ++ [O.lst ((p.news f s).map D.int)])[S.length]? = some (.lst ((p.news f s).map D.int)) := by simp
  obtain ⟨b, hb⟩ : ∃ b, b = if f ≤ s + p.L then p.Vf (f + 1) s else -1 := ⟨_, rfl⟩
  have e2 : f ≤ s + (p.D + l) → ftotal_of [.loc n, .loc m, .int (f + 1), .int s] S = .ok (.int b) S := fun h => by
    rw [hb, if_pos (by omega)]
    exact total_eq hl hS hM hT h0 (by omega) (by omega)
  have e2' : ¬ f ≤ s + (p.D + l) → b = -1 := fun h => by rw [hb, if_neg (by omega)]
  obtain ⟨y, e5⟩ := bf_loop (p := p) (S := S ++ [O.lst ((p.news f s).map D.int)]) (n := n) (m := m) (l := l) (f := f) (s := s) (b := b) (kvs := kvs) (k := S.length) hl (app_get hS _) (app_get hM _) hK hT h0 hf (p.gain f s)
  have hv : mx (fun x => p.gain f s + p.Vf (f + 1) x) b (p.news f s) = p.Vf f s := by
    rw [Vf_step p hfF, if_neg ho, hb]
    by_cases h : f ≤ s + p.L
    · rw [if_pos h, if_pos h]
    · rw [if_neg h, if_neg h]
      refine mx_neg _ _ (fun z => ?_) fun x _ => ?_
      · have : f ∈ p.news f s := by rw [mem_news]; unfold Par.lo; omega
        rw [z] at this; cases this
      · have := gain_pos p f s
        have := Vf_pos p (f + 1) x
        show 0 ≤ p.gain f s + p.Vf (f + 1) x
        omega
  rw [hv] at e5
  have em := bf_m (S := S) (n := n) (m := m) (f := f) (s := s) hS (by unfold Par.F at hfF; omega) e1 e2 e2' e3 e4 hK e5
  have er : ([D.loc n, D.loc m, D.int f, D.int s].map some ++ List.replicate (7 - 4) none : Sd) = [some (.loc n), some (.loc m), some (.int f), some (.int s), none, none, none] := rfl
  unfold fbest_from runB
  rw [er, em]
  exact trim_pre (by simp)
end G
set_option linter.all false
set_option maxRecDepth 100000
set_option maxHeartbeats 4000000
namespace G
open PySem PySem.Spec PyProof.Rows L2 FL
variable [KMap]
/-- one place of the table -/
theorem ro_step_no {S : Sto} {n m : Nat} {t d l g f s : Int} (hS : S[n]? = some (sprO t d l g)) (h : t - 1 ≤ s + g ∨ ¬ f ≤ s + 1 + (d + l)) :
    mrows_of_b1 [some (.loc n), some (.loc m), some (.int f), some (.int s)] S = .nx [some (.loc n), some (.loc m), some (.int f), some (.int s)] S := by
  have e := over_eq hS s
  have hc : metF [(0, fSpread__is_over)] (.loc n) S = some fSpread__is_over := by unfold sprO at hS; simp [metF, hS]
  have hfl : fldD [(0, 2)] (.loc n) S = some (.int (d + l)) := by unfold sprO at hS; simp [fldD, hS]
  by_cases ho : t - 1 ≤ s + g
  · simp [mrows_of_b1, hc, e, ho]
  · have hx : ¬ f ≤ s + 1 + (d + l) := by omega
    simp [mrows_of_b1, hc, e, ho, hfl, hx]
theorem ro_step {S : Sto} {n : Nat} {t d l g f s v : Int} {kvs : List (List Key × D)} (hS : S[n]? = some (sprO t d l g)) (ho : ¬ t - 1 ≤ s + g) (hx : f ≤ s + 1 + (d + l)) (hz : kvs.length < 16777216)
    (eb : fbest_from [.loc n, .loc S.length, .int f, .int s] (S ++ [.dT kvs]) = .ok (.int v) (S ++ [.dT kvs])) :
    mrows_of_b1 [some (.loc n), some (.loc S.length), some (.int f), some (.int s)] (S ++ [.dT kvs]) = .nx [some (.loc n), some (.loc S.length), some (.int f), some (.int s)] (S ++ [.dT (putD kvs [.inl f, .inl s] (.int v))]) := by
  have hS' := app_get hS [.dT kvs]
  have e := over_eq hS' s
  have hc : metF [(0, fSpread__is_over)] (.loc n) (S ++ [.dT kvs]) = some fSpread__is_over := by unfold sprO at hS'; simp [metF, hS']
  have hfl : fldD [(0, 2)] (.loc n) (S ++ [.dT kvs]) = some (.int (d + l)) := by unfold sprO at hS'; simp [fldD, hS']
  simp [mrows_of_b1, hc, e, ho, hfl, hx, eb, sizeLine_eq, hz, keysK_two]
theorem rows_row {p : Par} {S : Sto} {n : Nat} {l f : Int} {kvs : List (List Key × D)} {x : Option D} (hl : p.D + l = p.L) (hl0 : 0 ≤ l) (hS : S[n]? = some (sprO p.T p.D l p.g)) (hT : ∀ f', f < f' → TabOk p kvs f') (h0 : 0 ≤ f) (hb0 : f ≤ 1000) (hb1 : p.T ≤ 100) (hb2 : p.L ≤ 100) (hz : kvs.length ≤ 10000000) :
    ∃ kvs' y, mrows_of_b2 [some (.loc n), some (.loc S.length), some (.int f), x] (S ++ [.dT kvs]) = .nx [some (.loc n), some (.loc S.length), some (.int f), y] (S ++ [.dT kvs']) ∧ (∀ f', f ≤ f' → TabOk p kvs' f') ∧ kvs'.length ≤ kvs.length + 1001 := by
  have h := for_rg (lo := -1) (n := (f + 1).toNat) (g := gN 3) (b := mrows_of_b1) (σ := [some (.loc n), some (.loc S.length), some (.int f), x]) (S := S ++ [.dT kvs])
    (fun i σ S' => ∃ kvs' y, σ = [some (.loc n), some (.loc S.length), some (.int f), y] ∧ S' = S ++ [.dT kvs'] ∧ (∀ f', f < f' → TabOk p kvs' f') ∧ (∀ s : Int, -1 ≤ s → s < -1 + (i : Int) → f ≤ s + 1 + p.L → ¬ p.over s → tv kvs' f s = some (.int (p.Vf f s))) ∧ kvs'.length ≤ kvs.length + i)
    ⟨kvs, x, rfl, rfl, hT, fun s h1 h2 => by omega, by omega⟩ (by
      intro i σ S' hi q
      obtain ⟨kv, y, rfl, rfl, hq1, hq2, hq3⟩ := q
      have hsv : (-1 : Int) ≤ -1 + (i : Int) := by omega
      have hsf : (-1 : Int) + (i : Int) < f := by omega
      by_cases hc : ¬ p.over (-1 + (i : Int)) ∧ f ≤ (-1 + (i : Int)) + 1 + p.L
      · have hm : (S ++ [O.dT kv])[S.length]? = some (.dT kv) := by simp
        have eb := bf_eq (p := p) (S := S ++ [.dT kv]) (n := n) (m := S.length) (l := l) (f := f) (s := -1 + (i : Int)) hl hl0 (app_get hS _) hm (hq1 (f + 1) (by omega)) hsv hsf hc.2 hc.1 hb1 hb2
        have e := ro_step (S := S) (n := n) (f := f) (s := -1 + (i : Int)) (kvs := kv) hS hc.1 (by omega) (by omega) eb
        refine ⟨_, _, .inl (nx_of e), _, _, rfl, rfl, fun f' hf' s h1 h2 h3 h4 => ?_, fun s h1 h2 h3 h4 => ?_, ?_⟩
        · rw [tv_put, if_neg (fun z => by omega)]
          exact hq1 f' hf' s h1 h2 h3 h4
        · rw [tv_put]
          by_cases hs : s = -1 + (i : Int)
          · rw [if_pos ⟨rfl, hs.symm⟩, hs]
          · rw [if_neg (fun z => hs z.2.symm)]
            exact hq2 s h1 (by omega) h3 h4
        · have := put_len kv [.inl f, .inl (-1 + (i : Int))] (.int (p.Vf f (-1 + (i : Int))))
          omega
      · have e := ro_step_no (S := S ++ [.dT kv]) (n := n) (m := S.length) (f := f) (s := -1 + (i : Int)) (app_get hS _) (by
          by_cases ho : p.over (-1 + (i : Int))
          · exact .inl ho
          · refine .inr fun z => hc ⟨ho, by omega⟩)
        refine ⟨_, _, .inl (nx_of e), _, _, rfl, rfl, hq1, fun s h1 h2 h3 h4 => ?_, by omega⟩
        by_cases hs : s = -1 + (i : Int)
        · subst hs; exact absurd ⟨h4, h3⟩ hc
        · exact hq2 s h1 (by omega) h3 h4)
  obtain ⟨σ', S', e, kv, y, rfl, rfl, hq1, hq2, hq3⟩ := h
  refine ⟨kv, y, ?_, fun f' hf' => ?_, by omega⟩
  · have h2 : -4611686018427387904 ≤ f ∧ f < 4611686018427387904 := by omega
    have h3 : f - -1 = f + 1 := by omega
    generalize hN : (f + 1).toNat = N at *
    simp [mrows_of_b2, h2, h3, hN, e]
  · by_cases hff : f = f'
    · subst hff
      exact fun s h1 h2 h3 h4 => hq2 s h1 (by omega) h3 h4
    · exact hq1 f' (by omega)
end G
set_option linter.all false
set_option maxRecDepth 100000
set_option maxHeartbeats 4000000
namespace G
open PySem PySem.Spec PyProof.Rows L2 FL
variable [KMap]
/-- one new object, handed back -/
theorem trim_new1 {S : Sto} {o : O} : trim S (.loc S.length) (S ++ [o]) = .ok (.loc S.length) (S ++ [o]) := by
  unfold trim
  rw [if_pos ⟨by simp, fun i hi => .inl (List.getElem?_append_left hi)⟩, if_neg (by simp)]
  simp only [get_last, List.take_left]
  split <;> rfl
theorem ro_m {S S2 : Sto} {n : Nat} {t d l g fr : Int} {x y : Option D} (hS : S[n]? = some (sprO t d l g)) (hfr : fr = t + (3 * (d + l) + 3)) (h0 : 0 ≤ fr) (h1 : fr ≤ 1000)
    (e : forL (.its (dnD fr (fr + 1).toNat)) (gN 2) mrows_of_b2 (dnD fr (fr + 1).toNat) [some (.loc n), some (.loc S.length), none, none] (S ++ [.dT []]) = .nx [some (.loc n), some (.loc S.length), x, y] S2) :
    mrows_of [some (.loc n), none, none, none] S = .ret (.loc S.length) S2 := by
  have hS' := app_get hS [.dT []]
  have hfl : fldD [(0, 4)] (.loc n) (S ++ [.dT []]) = some (.int fr) := by subst hfr; unfold sprO at hS'; simp [fldD, hS']
  have h2 : -4611686018427387904 ≤ fr ∧ fr < 4611686018427387904 := by omega
  have h3 : fr - -1 = fr + 1 := by omega
  generalize hN : (fr + 1).toNat = N at *
  simp [mrows_of, hfl, h2, h3, hN, e]
theorem rows_eq {p : Par} {S : Sto} {n : Nat} {l : Int} (hl : p.D + l = p.L) (hl0 : 0 ≤ l) (hS : S[n]? = some (sprO p.T p.D l p.g)) (hb1 : p.T ≤ 100) (hb2 : p.L ≤ 100) :
    ∃ kvs, frows_of [.loc n] S = .ok (.loc S.length) (S ++ [.dT kvs]) ∧ ∀ f, 0 ≤ f → TabOk p kvs f := by
  have hD := p.hD
  have hT := p.hT
  have hg := p.hg
  obtain ⟨fr, hfr⟩ : ∃ fr, fr = p.T + (3 * (p.D + l) + 3) := ⟨_, rfl⟩
  have h := for_src (src := .its (dnD fr (fr + 1).toNat)) (g := gN 2) (b := mrows_of_b2) (σ := [some (.loc n), some (.loc S.length), none, none]) (S := S ++ [.dT []])
    (fun i σ S' => ∃ kvs x y, σ = [some (.loc n), some (.loc S.length), x, y] ∧ S' = S ++ [.dT kvs] ∧ (∀ f', fr - (i : Int) < f' → TabOk p kvs f') ∧ kvs.length ≤ i * 1001)
    ⟨[], none, none, rfl, rfl, fun f' hf' s h1 h2 h3 h4 => absurd (show p.over s by unfold Par.over; omega) h4, by simp⟩ (fun _ _ _ _ => trivial) (by
      intro i d σ S' hd q
      obtain ⟨kv, x, y, rfl, rfl, hq1, hq2⟩ := q
      have hd : (dnD fr (fr + 1).toNat)[i]? = some d := hd
      rw [dnD_get] at hd
      split at hd
      · rename_i hi
        cases hd
        obtain ⟨kv', y', e, hq, hz⟩ := rows_row (x := y) (kvs := kv) hl hl0 hS (f := fr - i) hq1 (by omega) (by omega) hb1 hb2 (by omega)
        exact ⟨_, _, .inl (nx_of e), kv', _, _, rfl, rfl, fun f' hf' => hq f' (by omega), by omega⟩
      · cases hd)
  obtain ⟨σ', S', e, kv, x, y, rfl, rfl, hq1, hq2⟩ := h
  have hlen : (Src.its (dnD fr (fr + 1).toNat)).items.length = (fr + 1).toNat := by simp [dnD]
  rw [hlen] at hq1
  refine ⟨kv, ?_, fun f hf => hq1 f (by omega)⟩
  have em := ro_m (S := S) (n := n) hS hfr (by omega) (by omega) e
  have er : ([D.loc n].map some ++ List.replicate (4 - 1) none : Sd) = [some (.loc n), none, none, none] := rfl
  unfold frows_of runB
  rw [er, em]
  exact trim_new1
end G
set_option linter.all false
set_option maxRecDepth 100000
set_option maxHeartbeats 4000000
namespace G
open PySem PySem.Spec PyProof.Rows L2 FL
variable [KMap]
def evD (e : Int × Int) : D := .tup [.int e.1, .int e.2]
theorem while_end {t : Mt} {b : Ms} {k : Nat} {σ : Sd} {S : Sto} (h : t σ S = .ok false S) : whileF t b (k + 1) σ S = .nx σ S := by
  unfold whileF; rw [h]; rfl
theorem while_go {t : Mt} {b : Ms} {k : Nat} {σ σ2 : Sd} {S S2 : Sto} (h : t σ S = .ok true S) (hb : b σ S = .nx σ2 S2) : whileF t b (k + 1) σ S = whileF t b k σ2 S2 := by
  conv => lhs; unfold whileF
  rw [h, R.fl_ok]
  simp only [hb]
theorem set_mid {S0 J : Sto} {o o' : O} : (S0 ++ o :: J).set S0.length o' = S0 ++ o' :: J := by simp
theorem get_mid {S0 J : Sto} {o : O} : (S0 ++ o :: J)[S0.length]? = some o := by simp
theorem und_evs (k : Nat) (es : List (Int × Int)) : D.und k (.tup (es.map evD)) = true := by
  rw [und_tup, unds_all, List.all_eq_true]
  intro d hd
  obtain ⟨a, _, rfl⟩ := List.mem_map.mp hd
  simp [evD]
end G
set_option linter.all false
set_option maxRecDepth 100000
set_option maxHeartbeats 4000000
namespace G
open PySem PySem.Spec PyProof.Rows L2 FL
variable [KMap]
/-! ### the law's ways -/
def Par.ways (p : Par) (f s : Int) : List (Int × Int) := (if f ≤ s + p.L then [(0, s)] else []) ++ (p.news f s).map fun n => (p.gain f s, n)
theorem rgI_succ (lo : Int) (i : Nat) : rgI lo (i + 1) = rgI lo i ++ [lo + (i : Int)] := by
  unfold rgI
  rw [List.range_succ, List.map_append]; rfl
theorem lw_b1 {S : Sto} {t d l g f s n gn : Int} {q : Nat} {ws : List D} (hq : S[q]? = some (.lst ws)) (hz : ws.length < 16777216) (hg : gn = max 0 (min f t - (s + 1 + g))) :
    m_law_ways_b1 [some (.int t), some (.int d), some (.int l), some (.int g), some (.int f), some (.int s), some (.loc q), some (.int n)] S = .nx [some (.int t), some (.int d), some (.int l), some (.int g), some (.int f), some (.int s), some (.loc q), some (.int n)] (S.set q (.lst (ws ++ [.tup [.int gn, .int n]]))) := by
  have h1 : (if t < f then t else f) = min f t := by omega
  have h2 : (if g < min f t - s - 1 then min f t - s - 1 - g else 0) = gn := by omega
  simp [m_law_ways_b1, h1, h2, hq, hz, sizeLine_eq]
theorem lw_loop {p : Par} {S : Sto} {l f s : Int} (w0 : List (Int × Int)) (hw : w0.length ≤ 1) (lo : Int) (n : Nat) (hn : n ≤ 2000) (x : Option D) :
    ∃ y, forL (.its (rgD lo n)) (gN 7) m_law_ways_b1 (rgD lo n) [some (.int p.T), some (.int p.D), some (.int l), some (.int p.g), some (.int f), some (.int s), some (.loc S.length), x] (S ++ [O.lst (w0.map evD)]) =
      .nx [some (.int p.T), some (.int p.D), some (.int l), some (.int p.g), some (.int f), some (.int s), some (.loc S.length), y] (S ++ [O.lst ((w0 ++ (rgI lo n).map fun n => (p.gain f s, n)).map evD)]) := by
  have h := for_rg (lo := lo) (n := n) (g := gN 7) (b := m_law_ways_b1) (σ := [some (.int p.T), some (.int p.D), some (.int l), some (.int p.g), some (.int f), some (.int s), some (.loc S.length), x]) (S := S ++ [O.lst (w0.map evD)])
    (fun i σ S' => ∃ y, σ = [some (.int p.T), some (.int p.D), some (.int l), some (.int p.g), some (.int f), some (.int s), some (.loc S.length), y] ∧ S' = S ++ [O.lst ((w0 ++ (rgI lo i).map fun n => (p.gain f s, n)).map evD)])
    ⟨x, rfl, by simp [rgI]⟩ (by
      intro i σ S' hi q
      obtain ⟨y, rfl, rfl⟩ := q
      have e := lw_b1 (t := p.T) (d := p.D) (l := l) (g := p.g) (f := f) (s := s) (n := lo + i) (gn := p.gain f s) (get_last (S := S) (o := .lst ((w0 ++ (rgI lo i).map fun n => (p.gain f s, n)).map evD))) (by simp [rgI]; omega) rfl
      rw [set_last] at e
      refine ⟨_, _, .inl (nx_of e), _, rfl, ?_⟩
      rw [rgI_succ]
      simp [evD])
  obtain ⟨σ', S', e, y, rfl, rfl⟩ := h
  exact ⟨y, e⟩
theorem lw_m {S S2 : Sto} {t d l g f s L lo : Int} {w0 : List D} {y : Option D} (hL : d + l = L) (hlo : lo = max (s + 1) (f - d)) (hb : -1 ≤ s ∧ s ≤ 1000 ∧ -1 ≤ f ∧ f ≤ 1000 ∧ 0 ≤ d ∧ d ≤ 1000) (hw : w0 = if f ≤ s + L then [.tup [.int 0, .int s]] else [])
    (e : forL (.its (rgD lo (f + 1 - lo).toNat)) (gN 7) m_law_ways_b1 (rgD lo (f + 1 - lo).toNat) [some (.int t), some (.int d), some (.int l), some (.int g), some (.int f), some (.int s), some (.loc S.length), none] (S ++ [.lst w0]) =
      .nx [some (.int t), some (.int d), some (.int l), some (.int g), some (.int f), some (.int s), some (.loc S.length), y] S2) :
    m_law_ways [some (.int t), some (.int d), some (.int l), some (.int g), some (.int f), some (.int s), none, none] S = .ret (.loc S.length) S2 := by
  have h1 : (if s + 1 < f - d then f - d else s + 1) = lo := by omega
  have h2 : -4611686018427387904 ≤ lo ∧ lo < 4611686018427387904 := by omega
  have h3 : -4611686018427387904 ≤ f + 1 ∧ f + 1 < 4611686018427387904 := by omega
  have h5 : s + d + l = s + L := by omega
  generalize hN : (f + 1 - lo).toNat = N at *
  by_cases h : f ≤ s + L
  · rw [if_pos h] at hw
    subst hw
    simp [m_law_ways, h1, h2, h3, h5, hN, h, e, sizeLine_eq]
  · rw [if_neg h] at hw
    subst hw
    simp [m_law_ways, h1, h2, h3, h5, hN, h, e, sizeLine_eq]
theorem ways_eq {p : Par} {S : Sto} {l f s : Int} (hl : p.D + l = p.L) (hb : -1 ≤ s ∧ s ≤ 1000 ∧ -1 ≤ f ∧ f ≤ 1000) (hd : p.D ≤ 1000) :
    f_law_ways [.int p.T, .int p.D, .int l, .int p.g, .int f, .int s] S = .ok (.loc S.length) (S ++ [O.lst ((p.ways f s).map evD)]) := by
  have hD := p.hD
  obtain ⟨y, e⟩ := lw_loop (p := p) (S := S) (l := l) (f := f) (s := s) (if f ≤ s + p.L then [(0, s)] else []) (by split <;> simp) (p.lo f s) (f + 1 - p.lo f s).toNat (by unfold Par.lo; omega) none
  have em := lw_m (S := S) (t := p.T) (d := p.D) (l := l) (g := p.g) (f := f) (s := s) (L := p.L) (lo := p.lo f s) (w0 := (if f ≤ s + p.L then [(0, s)] else []).map evD) hl rfl (by omega) (by split <;> rfl) e
  have er : ([D.int p.T, D.int p.D, D.int l, D.int p.g, D.int f, D.int s].map some ++ List.replicate (8 - 6) none : Sd) = [some (.int p.T), some (.int p.D), some (.int l), some (.int p.g), some (.int f), some (.int s), none, none] := rfl
  unfold f_law_ways runB
  rw [er, em]
  exact trim_new1
/-! ### what is left -/
theorem left_eq {p : Par} {S : Sto} {m : Nat} {f s : Int} {kvs : List (List Key × D)} (hM : S[m]? = some (.dT kvs)) (hv : ¬ p.over s → tv kvs f s = some (.int (p.Vf f s))) :
    f_law_left [.loc m, .int p.T, .int p.g, .int f, .int s] S = .ok (.int (p.Vf f s)) S := by
  have e2 := sub_dT (S := S) (n := m) (kts := kvs) (y := .tup [.int f, .int s]) hM (keysK_two f s)
  by_cases ho : p.over s
  · have e : p.Vf f s = 0 := V_over p _ ho
    have ho' : p.T - 1 ≤ s + p.g := ho
    rw [e]
    simp [f_law_left, runB, m_law_left, ho', trim_self]
  · have ho' : ¬ p.T - 1 ≤ s + p.g := ho
    have hv := hv ho
    generalize p.Vf f s = v at *
    unfold tv at hv
    simp [f_law_left, runB, m_law_left, ho', e2, hv, sizeLine_eq, trim_self]
/-! ### the law's table -/
def wf (p : Par) (f : Int) (b : Int) (w : Int × Int) : Int := max b (w.1 + p.Vf (f + 1) w.2)
theorem wf_all (p : Par) {f s : Int} (hf : f < p.F) (ho : ¬ p.over s) : (p.ways f s).foldl (wf p f) 0 = p.Vf f s := by
  rw [Vf_step p hf, if_neg ho]
  unfold Par.ways
  rw [List.foldl_append, List.foldl_map]
  have h : (if f ≤ s + p.L then [((0 : Int), s)] else []).foldl (wf p f) 0 = if f ≤ s + p.L then p.Vf (f + 1) s else 0 := by
    split
    · have := Vf_pos p (f + 1) s
      show max 0 (0 + p.Vf (f + 1) s) = _
      omega
    · rfl
  rw [h]
  rfl
end G
set_option linter.all false
set_option maxRecDepth 100000
set_option maxHeartbeats 4000000
namespace G
open PySem PySem.Spec PyProof.Rows L2 FL
variable [KMap]
theorem lt_b1 {S : Sto} {t d l g f s best gain new v : Int} {m : Nat} {bk st tn : Option D} (hs : st = some (.int s)) (e : f_law_left [.loc m, .int t, .int g, .int (f + 1), .int new] S = .ok (.int v) S) :
    m_law_totals_b1 [some (.int t), some (.int d), some (.int l), some (.int g), some (.loc m), bk, st, tn, some (.int f), some (.int best), some (.int gain), some (.int new)] S =
      .nx [some (.int t), some (.int d), some (.int l), some (.int g), some (.loc m), bk, st, tn, some (.int f), some (.int (max best (gain + v))), some (.int gain), some (.int new)] S := by
  have h : (if best < gain + v then gain + v else best) = max best (gain + v) := by omega
  simp [m_law_totals_b1, e, h]
/-- a loop's step over pairs -/
theorem nx_of2 {i j : Nat} {a b : D} {σ : Sd} {S : Sto} {bd : Ms} {r : Fl} (h : bd ((σ.set i (some a)).set j (some b)) S = r) : ((gTp 2 (gsCons (gN i) (gsCons (gN j) gsNil))) (.tup [a, b]) σ S).fl bd = r := by
  have e : (gTp 2 (gsCons (gN i) (gsCons (gN j) gsNil))) (.tup [a, b]) σ S = .ok ((σ.set i (some a)).set j (some b)) S := rfl
  rw [e, R.fl_ok]; exact h
theorem lt_loop {p : Par} {S : Sto} {l f s : Int} {m q : Nat} {kvs : List (List Key × D)} {bk tn x y : Option D} (hM : S[m]? = some (.dT kvs)) (hQ : S[q]? = some (.lst ((p.ways f s).map evD)))
    (hT : ∀ w ∈ p.ways f s, ¬ p.over w.2 → tv kvs (f + 1) w.2 = some (.int (p.Vf (f + 1) w.2))) :
    ∃ x' y', forL (.at_ q (.lst ((p.ways f s).map evD)) ((p.ways f s).map evD)) (gTp 2 (gsCons (gN 10) (gsCons (gN 11) gsNil))) m_law_totals_b1 ((p.ways f s).map evD) [some (.int p.T), some (.int p.D), some (.int l), some (.int p.g), some (.loc m), bk, some (.int s), tn, some (.int f), some (.int 0), x, y] S =
      .nx [some (.int p.T), some (.int p.D), some (.int l), some (.int p.g), some (.loc m), bk, some (.int s), tn, some (.int f), some (.int ((p.ways f s).foldl (wf p f) 0)), x', y'] S := by
  have h := for_src (src := .at_ q (.lst ((p.ways f s).map evD)) ((p.ways f s).map evD)) (g := gTp 2 (gsCons (gN 10) (gsCons (gN 11) gsNil))) (b := m_law_totals_b1) (σ := [some (.int p.T), some (.int p.D), some (.int l), some (.int p.g), some (.loc m), bk, some (.int s), tn, some (.int f), some (.int 0), x, y]) (S := S)
    (fun i σ S' => S' = S ∧ ∃ x' y', σ = [some (.int p.T), some (.int p.D), some (.int l), some (.int p.g), some (.loc m), bk, some (.int s), tn, some (.int f), some (.int (((p.ways f s).take i).foldl (wf p f) 0)), x', y'])
    ⟨rfl, x, y, rfl⟩ (fun i σ S' h => by rw [h.1]; exact hQ) (by
      intro i d σ S' hd h
      obtain ⟨rfl, x', y', rfl⟩ := h
      have hd : ((p.ways f s).map evD)[i]? = some d := hd
      rw [List.getElem?_map, Option.map_eq_some_iff] at hd
      obtain ⟨w, hw, rfl⟩ := hd
      have e := left_eq (p := p) (S := S') (m := m) (f := f + 1) (s := w.2) hM (hT w (List.mem_of_getElem? hw))
      have e2 := lt_b1 (t := p.T) (d := p.D) (l := l) (g := p.g) (f := f) (s := s) (best := ((p.ways f s).take i).foldl (wf p f) 0) (gain := w.1) (new := w.2) (m := m) (bk := bk) (tn := tn) rfl e
      have htk : (p.ways f s).take (i + 1) = (p.ways f s).take i ++ [w] := by rw [List.take_add_one, hw]; rfl
      rw [htk, List.foldl_append]
      exact ⟨_, _, .inl (nx_of2 e2), rfl, some (.int w.1), some (.int w.2), rfl⟩)
  obtain ⟨σ', S', e, rfl, x', y', rfl⟩ := h
  have hlen : (Src.at_ q (.lst ((p.ways f s).map evD)) ((p.ways f s).map evD)).items.length = (p.ways f s).length := by simp
  rw [hlen, List.take_length] at e
  exact ⟨x', y', e⟩
theorem lt_m2 {S S1 : Sto} {t d l g f s tn L best : Int} {m : Nat} {bk x y z w x' y' : Option D} {ws : List D} {kvs : List (List Key × D)} (hL : d + l = L) (hf : f = s + 1 + L - tn) (ew : f_law_ways [.int t, .int d, .int l, .int g, .int f, .int s] S = .ok (.loc S.length) S1) (hW : S1[S.length]? = some (.lst ws))
    (e : forL (.at_ S.length (.lst ws) ws) (gTp 2 (gsCons (gN 10) (gsCons (gN 11) gsNil))) m_law_totals_b1 ws [some (.int t), some (.int d), some (.int l), some (.int g), some (.loc m), bk, some (.int s), some (.int tn), some (.int f), some (.int 0), z, w] S1 =
      .nx [some (.int t), some (.int d), some (.int l), some (.int g), some (.loc m), bk, some (.int s), some (.int tn), some (.int f), some (.int best), x', y'] S1) (hM : S1[m]? = some (.dT kvs)) (hz : kvs.length < 16777216) :
    m_law_totals_b2 [some (.int t), some (.int d), some (.int l), some (.int g), some (.loc m), bk, some (.int s), some (.int tn), x, y, z, w] S =
      .nx [some (.int t), some (.int d), some (.int l), some (.int g), some (.loc m), bk, some (.int s), some (.int tn), some (.int f), some (.int best), x', y'] (S1.set m (.dT (putD kvs [.inl f, .inl s] (.int best)))) := by
  have h1 : s + 1 + d + l - tn = f := by omega
  simp [m_law_totals_b2, h1, ew, hW, e, hM, hz, keysK_two, sizeLine_eq]
end G
set_option linter.all false
set_option maxRecDepth 100000
set_option maxHeartbeats 4000000
namespace G
open PySem PySem.Spec PyProof.Rows L2 FL
variable [KMap]
theorem mem_ways {p : Par} {f s : Int} {w : Int × Int} (h : w ∈ p.ways f s) : (w.2 = s ∧ w.1 = 0 ∧ f ≤ s + p.L) ∨ (p.lo f s ≤ w.2 ∧ w.2 ≤ f ∧ w.1 = p.gain f s) := by
  unfold Par.ways at h
  rcases List.mem_append.mp h with h | h
  · split at h
    · rw [List.mem_singleton.mp h]; exact .inl ⟨rfl, rfl, by assumption⟩
    · cases h
  · obtain ⟨n, hn, rfl⟩ := List.mem_map.mp h
    have := (mem_news p).mp hn
    exact .inr ⟨this.1, this.2, rfl⟩
def LTab (p : Par) (kvs : List (List Key × D)) (s0 : Int) : Prop := ∀ s, s0 < s → ∀ f, s < f → f ≤ s + 1 + p.L → ¬ p.over s → tv kvs f s = some (.int (p.Vf f s))
def kp (p : Int × Int) : List Key := [.inl p.1, .inl p.2]
theorem kp_inj {a b : Int × Int} (h : kp a = kp b) : a = b := by
  unfold kp at h
  simp at h
  exact Prod.ext h.1 h.2
/-- the pairs that can come -/
def Vd (p : Par) (f s : Int) : Prop := -1 ≤ s ∧ ¬ p.over s ∧ s + 1 ≤ f ∧ f ≤ s + 1 + p.L
def kvInts (p : Par) (kvs : List (List Key × D)) : Prop := (∀ e ∈ kvs, ∃ i, e.2 = .int i) ∧ (∃ ps : List (Int × Int), kvs.map (·.1) = ps.map kp ∧ ps.Nodup) ∧ ∀ f s, tv kvs f s ≠ none → Vd p f s
theorem any_keys {kvs : List (List Key × D)} {ps : List (Int × Int)} (h : kvs.map (·.1) = ps.map kp) (q : Int × Int) : (kvs.any fun kv => decide (kv.1 = kp q)) = true ↔ q ∈ ps := by
  have h1 : (kvs.any fun kv => decide (kv.1 = kp q)) = (kvs.map (·.1)).any fun k => decide (k = kp q) := by rw [List.any_map]; rfl
  rw [h1, h, List.any_map, List.any_eq_true]
  constructor
  · rintro ⟨x, hx, e⟩
    rw [← kp_inj (of_decide_eq_true e)]; exact hx
  · intro hq
    exact ⟨q, hq, by simp⟩
theorem put_keys {kvs : List (List Key × D)} {ps : List (Int × Int)} (h : kvs.map (·.1) = ps.map kp) (hn : ps.Nodup) (q : Int × Int) (v : D) :
    ∃ ps', (putD kvs (kp q) v).map (·.1) = ps'.map kp ∧ ps'.Nodup ∧ ((q ∈ ps ∧ ps' = ps) ∨ (q ∉ ps ∧ ps' = ps ++ [q])) := by
  have ha := any_keys h q
  unfold putD
  by_cases hq : q ∈ ps
  · rw [if_pos (ha.mpr hq)]
    refine ⟨ps, ?_, hn, .inl ⟨hq, rfl⟩⟩
    rw [List.map_map, ← h]
    refine List.map_congr_left fun e _ => ?_
    show (if e.1 = kp q then (e.1, v) else e).1 = e.1
    split <;> rfl
  · rw [if_neg (fun z => hq (ha.mp z))]
    refine ⟨ps ++ [q], by rw [List.map_append, h, List.map_append]; rfl, ?_, .inr ⟨hq, rfl⟩⟩
    rw [List.nodup_append]
    refine ⟨hn, by simp, fun x hx b hb => ?_⟩
    rw [List.mem_singleton.mp hb]
    rintro rfl
    exact hq hx
theorem kvInts_put {p : Par} {kvs : List (List Key × D)} (h : kvInts p kvs) (f s i : Int) (hv : Vd p f s) : kvInts p (putD kvs [.inl f, .inl s] (.int i)) := by
  refine ⟨fun e he => ?_, ?_, fun f' s' h' => ?_⟩
  · have h := h.1
    unfold putD at he
    split at he
    · obtain ⟨e', he', rfl⟩ := List.mem_map.mp he
      split
      · exact ⟨i, rfl⟩
      · exact h e' he'
    · rcases List.mem_append.mp he with he | he
      · exact h e he
      · rw [List.mem_singleton.mp he]; exact ⟨i, rfl⟩
  · obtain ⟨ps, h1, h2⟩ := h.2.1
    obtain ⟨ps', h3, h4, _⟩ := put_keys h1 h2 (f, s) (.int i)
    exact ⟨ps', h3, h4⟩
  · rw [tv_put] at h'
    split at h'
    · rename_i hc
      rw [← hc.1, ← hc.2]; exact hv
    · exact h.2.2 f' s' h'
theorem lt_row {p : Par} {S J : Sto} {l s : Int} {kvs : List (List Key × D)} {bk a b c e x y : Option D} (hl : p.D + l = p.L) (hl0 : 0 ≤ l) (hL : LTab p kvs s) (h0 : -1 ≤ s) (ho : ¬ p.over s) (hb1 : p.T ≤ 100) (hb2 : p.L ≤ 100) (hz : kvs.length ≤ 10000000) (hki : kvInts p kvs) :
    ∃ kvs' J' a' b' c' x' y', forL (.its (rgD 0 (p.L + 1).toNat)) (gN 7) m_law_totals_b2 (rgD 0 (p.L + 1).toNat) [some (.int p.T), some (.int p.D), some (.int l), some (.int p.g), some (.loc S.length), bk, some (.int s), a, b, c, x, y] (S ++ O.dT kvs :: J) =
      .nx [some (.int p.T), some (.int p.D), some (.int l), some (.int p.g), some (.loc S.length), bk, some (.int s), a', b', c', x', y'] (S ++ O.dT kvs' :: J') ∧ LTab p kvs' (s - 1) ∧ kvs'.length ≤ kvs.length + (p.L + 1).toNat ∧ kvInts p kvs' := by
  have hgg := p.hg
  have hDD := p.hD
  have hDL := p.hDL
  have hLL := p.hL
  have h := for_rg (lo := 0) (n := (p.L + 1).toNat) (g := gN 7) (b := m_law_totals_b2) (σ := [some (.int p.T), some (.int p.D), some (.int l), some (.int p.g), some (.loc S.length), bk, some (.int s), a, b, c, x, y]) (S := S ++ O.dT kvs :: J)
    (fun i σ S' => ∃ kvs' J' a' b' c' x' y', σ = [some (.int p.T), some (.int p.D), some (.int l), some (.int p.g), some (.loc S.length), bk, some (.int s), a', b', c', x', y'] ∧ S' = S ++ O.dT kvs' :: J' ∧ LTab p kvs' s ∧
      (∀ f, s + 1 + p.L - (i : Int) < f → f ≤ s + 1 + p.L → tv kvs' f s = some (.int (p.Vf f s))) ∧ kvs'.length ≤ kvs.length + i ∧ kvInts p kvs')
    ⟨kvs, J, _, _, _, _, _, rfl, rfl, hL, fun f h1 h2 => by omega, by omega, hki⟩ (by
      intro i σ S' hi h
      obtain ⟨kv, J', a', b', c', x', y', rfl, rfl, h1, h2, h3, h4⟩ := h
      obtain ⟨f, hf⟩ : ∃ f, f = s + 1 + p.L - (0 + (i : Int)) := ⟨_, rfl⟩
      have hs : s < p.T - 1 - p.g := by unfold Par.over at ho; omega
      have hM : (S ++ O.dT kv :: J')[S.length]? = some (.dT kv) := get_mid
      have ew := ways_eq (p := p) (S := S ++ O.dT kv :: J') (l := l) (f := f) (s := s) hl (by omega) (by omega)
      have hM2 := app_get hM [O.lst ((p.ways f s).map evD)]
      have hW : ((S ++ O.dT kv :: J') ++ [O.lst ((p.ways f s).map evD)])[(S ++ O.dT kv :: J').length]? = some (.lst ((p.ways f s).map evD)) := get_last
      obtain ⟨x2, y2, el⟩ := lt_loop (l := l) (bk := bk) (tn := some (.int (0 + (i : Int)))) (x := x') (y := y') hM2 hW (fun w hw hov => by
        rcases mem_ways hw with ⟨e1, _, e2⟩ | ⟨e1, e2, _⟩
        · rw [e1]; exact h2 (f + 1) (by omega) (by omega)
        · unfold Par.lo at e1
          exact h1 w.2 (by omega) (f + 1) (by omega) (by omega) hov)
      rw [wf_all p (by unfold Par.F; omega) ho] at el
      have em := lt_m2 (x := b') (y := c') (z := x') (w := y') (L := p.L) (tn := 0 + (i : Int)) hl hf ew hW el hM2 (by omega)
      have es : ((S ++ O.dT kv :: J') ++ [O.lst ((p.ways f s).map evD)]).set S.length (.dT (putD kv [.inl f, .inl s] (.int (p.Vf f s)))) = S ++ O.dT (putD kv [.inl f, .inl s] (.int (p.Vf f s))) :: (J' ++ [O.lst ((p.ways f s).map evD)]) := by simp
      rw [es] at em
      refine ⟨_, _, .inl (nx_of em), _, _, _, _, _, _, _, rfl, rfl, fun s' k1 f' k2 k3 k4 => ?_, fun f' k1 k2 => ?_, ?_, kvInts_put h4 _ _ _ ⟨h0, ho, by omega, by omega⟩⟩
      · rw [tv_put, if_neg (fun z => by omega)]
        exact h1 s' k1 f' k2 k3 k4
      · rw [tv_put]
        by_cases hff : f = f'
        · subst hff; rw [if_pos ⟨rfl, rfl⟩]
        · rw [if_neg (fun z => hff z.1)]
          exact h2 f' (by omega) k2
      · have := put_len kv [.inl f, .inl s] (.int (p.Vf f s))
        omega)
  obtain ⟨σ', S', e, kv, J', a', b', c', x', y', rfl, rfl, h1, h2, h3, h4⟩ := h
  refine ⟨kv, J', a', b', c', x', y', e, fun s' k1 f' k2 k3 k4 => ?_, h3, h4⟩
  by_cases hs : s' = s
  · subst hs; exact h2 f' (by omega) k3
  · exact h1 s' (by omega) f' k2 k3 k4
theorem lt_m3 {S S2 : Sto} {t d l g bk L s : Int} {m : Nat} {x a b c y z : Option D} {r : Sd} (hL : d + l = L) (hs : s = t - 2 - g - bk) (h0 : 0 ≤ L) (h1 : L ≤ 1000)
    (e : forL (.its (rgD 0 (L + 1).toNat)) (gN 7) m_law_totals_b2 (rgD 0 (L + 1).toNat) [some (.int t), some (.int d), some (.int l), some (.int g), some (.loc m), some (.int bk), some (.int s), a, b, c, y, z] S = .nx r S2) :
    m_law_totals_b3 [some (.int t), some (.int d), some (.int l), some (.int g), some (.loc m), some (.int bk), x, a, b, c, y, z] S = .nx r S2 := by
  have h2 : t - 2 - g - bk = s := by omega
  have h3 : -4611686018427387904 ≤ L + 1 ∧ L + 1 < 4611686018427387904 := by omega
  generalize hN : (L + 1).toNat = N at *
  simp [m_law_totals_b3, h2, hL, h3, hN, e]
theorem lt_m {S : Sto} {t d l g N : Int} {kvs : List (List Key × D)} {J : Sto} {r1 r2 r3 r4 r5 r6 r7 : Option D} (hN : N = t - g) (h0 : -1000 ≤ N) (h1 : N ≤ 1000)
    (e : forL (.its (rgD 0 N.toNat)) (gN 5) m_law_totals_b3 (rgD 0 N.toNat) [some (.int t), some (.int d), some (.int l), some (.int g), some (.loc S.length), none, none, none, none, none, none, none] (S ++ [O.dT []]) =
      .nx [some (.int t), some (.int d), some (.int l), some (.int g), some (.loc S.length), r1, r2, r3, r4, r5, r6, r7] (S ++ O.dT kvs :: J)) :
    m_law_totals [some (.int t), some (.int d), some (.int l), some (.int g), none, none, none, none, none, none, none, none] S = .ret (.loc S.length) (S ++ O.dT kvs :: J) := by
  have h3 : -4611686018427387904 ≤ N ∧ N < 4611686018427387904 := by omega
  have h4 : t - g = N := hN.symm
  generalize hN2 : N.toNat = N2 at *
  simp [m_law_totals, h4, h3, hN2, e]
end G
set_option linter.all false
set_option maxRecDepth 100000
set_option maxHeartbeats 4000000
namespace G
open PySem PySem.Spec PyProof.Rows L2 FL
variable [KMap]
theorem totals_eq {p : Par} {S : Sto} {l : Int} (hl : p.D + l = p.L) (hl0 : 0 ≤ l) (hb1 : p.T ≤ 100) (hb2 : p.L ≤ 100) (hb3 : p.g ≤ 100) :
    ∃ kvs, f_law_totals [.int p.T, .int p.D, .int l, .int p.g] S = .ok (.loc S.length) (S ++ [O.dT kvs]) ∧ LTab p kvs (-2) ∧ kvs.length ≤ 100000 ∧ kvInts p kvs := by
  have hgg := p.hg
  have hTT := p.hT
  have hLL := p.hL
  obtain ⟨N, hN⟩ : ∃ N, N = p.T - p.g := ⟨_, rfl⟩
  have h := for_rg (lo := 0) (n := N.toNat) (g := gN 5) (b := m_law_totals_b3) (σ := [some (.int p.T), some (.int p.D), some (.int l), some (.int p.g), some (.loc S.length), none, none, none, none, none, none, none]) (S := S ++ [O.dT []])
    (fun i σ S' => ∃ kvs J r1 r2 r3 r4 r5 r6 r7, σ = [some (.int p.T), some (.int p.D), some (.int l), some (.int p.g), some (.loc S.length), r1, r2, r3, r4, r5, r6, r7] ∧ S' = S ++ O.dT kvs :: J ∧ LTab p kvs (p.T - 2 - p.g - (i : Int)) ∧ kvs.length ≤ i * 101 ∧ kvInts p kvs)
    ⟨[], [], _, _, _, _, _, _, _, rfl, rfl, fun s h1 f h2 h3 h4 => absurd (show p.over s by unfold Par.over; omega) h4, by simp, (fun e he => by cases he), ⟨[], rfl, List.nodup_nil⟩, fun f s z => absurd rfl z⟩ (by
      intro i σ S' hi h
      obtain ⟨kv, J, r1, r2, r3, r4, r5, r6, r7, rfl, rfl, h1, h2, h3⟩ := h
      have hs : p.T - 2 - p.g - (0 + (i : Int)) = p.T - 2 - p.g - (i : Int) := by omega
      obtain ⟨kv', J', a', b', c', x', y', e, h4, h5, h6⟩ := lt_row (s := p.T - 2 - p.g - (0 + (i : Int))) (J := J) (bk := some (.int (0 + (i : Int)))) (a := r3) (b := r4) (c := r5) (e := none) (x := r6) (y := r7) hl hl0 (by rw [hs]; exact h1) (by omega) (by unfold Par.over; omega) hb1 hb2 (by omega) h3
      have em := lt_m3 (m := S.length) (x := r2) hl rfl hLL (by omega) e
      refine ⟨_, _, .inl (nx_of em), kv', J', _, _, _, _, _, _, _, rfl, rfl, ?_, by omega, h6⟩
      have hs2 : p.T - 2 - p.g - (0 + (i : Int)) - 1 = p.T - 2 - p.g - ((i + 1 : Nat) : Int) := by omega
      rw [hs2] at h4
      exact h4)
  obtain ⟨σ', S', e, kv, J, r1, r2, r3, r4, r5, r6, r7, rfl, rfl, h1, h2, h3⟩ := h
  have em := lt_m hN (by omega) (by omega) e
  refine ⟨kv, ?_, fun s k1 => h1 s ?_, by omega, h3⟩
  · have er : ([D.int p.T, D.int p.D, D.int l, D.int p.g].map some ++ List.replicate (12 - 4) none : Sd) = [some (.int p.T), some (.int p.D), some (.int l), some (.int p.g), none, none, none, none, none, none, none, none] := rfl
    unfold f_law_totals runB
    rw [er, em]
    refine trim_new (by simp) get_mid ?_
    simp only [O.und, List.all_eq_true]
    intro x hx
    obtain ⟨i, hi⟩ := h3.1 x hx
    rw [hi]; rfl
  · have : N.toNat = (p.T - p.g).toNat := by rw [hN]
    omega

end G
set_option linter.all false
set_option maxRecDepth 100000
set_option maxHeartbeats 4000000
namespace G
open PySem PySem.Spec PyProof.Rows L2 FL
variable [KMap]
/-! ### plain data: what the law asks about -/
def isI : D → Bool
  | .int _ => true
  | _ => false
def pl : D → Bool
  | .non => true | .int _ => true | .str _ => true | .tup _ => true | _ => false
def pl1 : D → Bool
  | .non => true | .int _ => true | .str _ => true | .tup xs => xs.all pl | _ => false
def isIs : D → Bool
  | .tup xs => xs.all isI
  | _ => false
theorem k1 : kitB "int" "int" = some true := by decide +kernel
theorem k2 : kitB "int" "bool" = some false := by decide +kernel
theorem k3 : kitB "NoneType" "int" = some false := by decide +kernel
theorem k4 : kitB "str" "int" = some false := by decide +kernel
theorem k5 : kitB "tuple" "int" = some false := by decide +kernel
theorem k6 : kitB "tuple" "tuple" = some true := by decide +kernel
theorem k7 : kitB "NoneType" "tuple" = some false := by decide +kernel
theorem k8 : kitB "int" "tuple" = some false := by decide +kernel
theorem k9 : kitB "str" "tuple" = some false := by decide +kernel
theorem kb : kitB "bool" "bool" = some true := by decide +kernel
theorem lisint {d : D} (h : pl d = true) (S : Sto) : f_law_is_int [d] S = .ok (.bl (isI d)) S := by
  cases d <;> simp [pl] at h <;> simp [f_law_is_int, runB, m_law_is_int, k1, k2, k3, k4, k5, isI, trim_self]
theorem pisint {d : D} (h : pl d = true) (S : Sto) : fis_int [d] S = .ok (.bl (isI d)) S := by
  cases d <;> simp [pl] at h <;> simp [fis_int, runB, mis_int, k1, k2, k3, k4, k5, isI, trim_self]
theorem lisints {d : D} (h : pl1 d = true) (hz : ∀ xs, d = .tup xs → xs.length ≤ 1000) (S : Sto) : f_law_is_ints [d] S = .ok (.bl (isIs d)) S := by
  cases d with
  | tup xs =>
    have h : xs.all pl = true := h
    have hz := hz xs rfl
    have e := compL_map (src := .its xs) (g := gN 1) (e := mL f_law_is_int (aCons (mVar 1) aNil)) (vs := [1]) (σ := [some (.tup xs), none]) (S := S) (fun d => .bl (isI d)) trivial xs (fun d hd => by
      have := lisint (List.all_eq_true.mp h d hd) S
      exact ⟨_, rfl, by simp [wipeD, this]⟩) (by rw [sizeLine_eq]; omega)
    have e2 : (xs.map fun d => D.bl (isI d)) = (xs.map isI).map D.bl := by rw [List.map_map]; rfl
    rw [e2] at e
    have e3 : (xs.map isI).all id = xs.all isI := by simp [List.all_map]
    show f_law_is_ints [.tup xs] S = .ok (.bl (xs.all isI)) S
    rw [← e3]
    generalize xs.map isI = bs at *
    simp [f_law_is_ints, runB, m_law_is_ints, e, k6, blsD_map]
    exact trim_pre (by simp)
  | _ => simp [pl1] at h <;> simp [f_law_is_ints, runB, m_law_is_ints, k7, k8, k9, isIs, trim_self]
theorem pii_b1 {d : D} {a : Option D} (h : pl d = true) (S : Sto) : mis_ints_b1 [a, some d] S = if isI d = true then .nx [a, some d] S else .ret (.bl false) S := by
  have e := pisint h S
  cases hi : isI d with
  | true => rw [hi] at e; simp [mis_ints_b1, e]
  | false => rw [hi] at e; simp [mis_ints_b1, e]
theorem pii_loop {a : Option D} {all : List D} (S : Sto) : ∀ (xs : List D) (y : Option D), xs.all pl = true →
    ∃ y', forL (.its all) (gN 1) mis_ints_b1 xs [a, y] S = if xs.all isI = true then .nx [a, y'] S else .ret (.bl false) S
  | [], y, _ => ⟨y, by rw [forL_nil]; rfl⟩
  | x :: r, y, h => by
    rw [List.all_cons, Bool.and_eq_true] at h
    obtain ⟨y', e⟩ := pii_loop S r (some x) h.2
    refine ⟨y', ?_⟩
    rw [forL_cons, chk_its, nx_of (pii_b1 (a := a) h.1 S)]
    cases hi : isI x with
    | true => simp only [if_true, List.all_cons, hi, Bool.true_and]; exact e
    | false => simp [hi]
theorem pisints {d : D} (h : pl1 d = true) (S : Sto) : fis_ints [d] S = .ok (.bl (isIs d)) S := by
  cases d with
  | tup xs =>
    have h : xs.all pl = true := h
    obtain ⟨y', e⟩ := pii_loop (a := some (.tup xs)) (all := xs) S xs none h
    show fis_ints [.tup xs] S = .ok (.bl (xs.all isI)) S
    cases hb : xs.all isI with
    | true =>
      rw [hb] at e
      simp only [if_true] at e
      simp [fis_ints, runB, mis_ints, e, k6, trim_self]
    | false =>
      rw [hb] at e
      simp only [Bool.false_eq_true, if_false] at e
      simp [fis_ints, runB, mis_ints, e, k6, trim_self]
  | _ => simp [pl1] at h <;> simp [fis_ints, runB, mis_ints, k7, k8, k9, isIs, trim_self]
def isRow3 : D → Bool
  | .tup xs => decide (xs.length = 3)
  | _ => false
theorem pisrow {d : D} (h : pl1 d = true) (S : Sto) : fis_row [d, .int 3] S = .ok (.bl (isRow3 d)) S := by
  cases d with
  | tup xs =>
    have e : decide ((xs.length : Int) = 3) = decide (xs.length = 3) := decide_eq_decide.mpr (by omega)
    show fis_row [.tup xs, .int 3] S = .ok (.bl (decide (xs.length = 3))) S
    have h : fEqv false (.int (xs.length : Int)) (.int 3) S = .ok (.bl (decide (xs.length = 3))) S := by rw [← e]; simp
    generalize hn : (xs.length : Int) = n at h
    simp [fis_row, runB, mis_row, k6, trim_self, hn, h]
  | _ => simp [pl1] at h <;> simp [fis_row, runB, mis_row, k7, k8, k9, isRow3, trim_self]
end G
set_option linter.all false
set_option maxRecDepth 100000
set_option maxHeartbeats 4000000
namespace G
open PySem PySem.Spec PyProof.Rows L2 FL
variable [KMap]
/-! ### the table of a bar -/
abbrev Tab := List (List Key × D)
def barStep (x : D) (kvs : Tab) : Option Tab := match x with
  | .tup [.int a, .int b, .int c] => if (tv kvs a b).isSome = true then none else some (putD kvs [.inl a, .inl b] (.int c))
  | _ => none
def barT : List D → Tab → Option Tab
  | [], kvs => some kvs
  | x :: r, kvs => (barStep x kvs).bind (barT r)
def RwD (x : D) : Prop := pl1 x = true ∧ ∀ ys, x = .tup ys → ys.length ≤ 1000
theorem row3_cases {x : D} (h1 : isRow3 x = true) (h2 : isIs x = true) : ∃ a b c, x = .tup [.int a, .int b, .int c] := by
  cases x with
  | tup xs =>
    have h1 : xs.length = 3 := of_decide_eq_true h1
    have h2 : xs.all isI = true := h2
    match xs, h1, h2 with
    | [x, y, z], _, h2 =>
      simp only [List.all_cons, List.all_nil, Bool.and_true, Bool.and_eq_true] at h2
      obtain ⟨hx, hy, hz⟩ := h2
      cases x <;> simp [isI] at hx
      cases y <;> simp [isI] at hy
      cases z <;> simp [isI] at hz
      exact ⟨_, _, _, rfl⟩
  | _ => cases h1
theorem barStep_no {x : D} {kvs : Tab} (h : ¬ (isRow3 x = true ∧ isIs x = true)) : barStep x kvs = none := by
  unfold barStep
  split
  · exact absurd ⟨rfl, rfl⟩ h
  · rfl
theorem pbt_no {x : D} {kvs : Tab} {r : Option D} {n : Nat} {S : Sto} (hx : RwD x) (h : ¬ (isRow3 x = true ∧ isIs x = true)) : mbar_table_b1 [r, some (.loc n), some x] S = .ret .non S := by
  have e1 := pisrow hx.1 S
  have e2 := pisints hx.1 S
  cases h1 : isRow3 x with
  | false => rw [h1] at e1; simp [mbar_table_b1, e1]
  | true =>
    have h2 : isIs x = false := by
      cases h2 : isIs x with
      | false => rfl
      | true => exact absurd ⟨h1, h2⟩ h
    rw [h1] at e1; rw [h2] at e2
    simp [mbar_table_b1, e1, e2]
theorem lbt_no {x : D} {kvs : Tab} {r : Option D} {n : Nat} {S : Sto} (hx : RwD x) (h : ¬ (isRow3 x = true ∧ isIs x = true)) : m_law_bar_table_b1 [r, some (.loc n), some x] S = .ret .non S := by
  have e2 := lisints hx.1 hx.2 S
  cases h2 : isIs x with
  | false => rw [h2] at e2; simp [m_law_bar_table_b1, e2]
  | true =>
    rw [h2] at e2
    have h1 : isRow3 x = false := by
      cases h1 : isRow3 x with
      | false => rfl
      | true => exact absurd ⟨h1, h2⟩ h
    cases x with
    | tup xs =>
      have h1 : ¬ xs.length = 3 := of_decide_eq_false h1
      have h1 : ¬ (xs.length : Int) = 3 := by omega
      generalize hn : (xs.length : Int) = n at *
      simp [m_law_bar_table_b1, e2, hn, h1]
    | _ => cases h2
/-- a table, walked or not -/
def TabAt (S : Sto) (n : Nat) (kvs : Tab) : Prop := S[n]? = some (.dT kvs) ∨ S[n]? = some (.fT kvs)
theorem tab_app {S : Sto} {n : Nat} {kvs : Tab} (h : TabAt S n kvs) (J : Sto) : TabAt (S ++ J) n kvs := h.imp (fun h => app_get h J) (fun h => app_get h J)
theorem in_tab {S : Sto} {n : Nat} {kvs : Tab} {a b : Int} {neg : Bool} (h : TabAt S n kvs) : fInN neg (.tup [.int a, .int b]) (.loc n) S = .ok (.bl (neg ^^ (tv kvs a b).isSome)) S := by
  rcases h with h | h
  · exact in_dT h (keysK_two a b)
  · simp only [fInN, h, lookD, keyT, keysK_two, Option.map_some]; rfl
theorem sub_tab {S : Sto} {n : Nat} {kvs : Tab} {a b : Int} (h : TabAt S n kvs) : fSub_ (.loc n) (.tup [.int a, .int b]) S = okO S (tv kvs a b) := by
  rcases h with h | h
  · exact sub_dT h (keysK_two a b)
  · exact sub_fT h (keysK_two a b)
theorem pbt_yes {a b c : Int} {kvs : Tab} {r : Option D} {S : Sto} (hz : kvs.length < 16777216) : mbar_table_b1 [r, some (.loc S.length), some (.tup [.int a, .int b, .int c])] (S ++ [.dT kvs]) =
    if (tv kvs a b).isSome = true then .ret .non (S ++ [.dT kvs]) else .nx [r, some (.loc S.length), some (.tup [.int a, .int b, .int c])] (S ++ [.dT (putD kvs [.inl a, .inl b] (.int c))]) := by
  have e1 := pisrow (d := .tup [.int a, .int b, .int c]) rfl (S ++ [.dT kvs])
  have e2 := pisints (d := .tup [.int a, .int b, .int c]) rfl (S ++ [.dT kvs])
  have e3 := in_tab (neg := false) (a := a) (b := b) (.inl (get_last (S := S) (o := .dT kvs)))
  have h1 : isRow3 (.tup [.int a, .int b, .int c]) = true := rfl
  have h2 : isIs (.tup [.int a, .int b, .int c]) = true := rfl
  rw [h1] at e1; rw [h2] at e2
  cases hi : (tv kvs a b).isSome with
  | true => rw [hi] at e3; simp [mbar_table_b1, e1, e2, e3, sizeLine_eq, atI, ixN]
  | false => rw [hi] at e3; simp [mbar_table_b1, e1, e2, e3, hz, sizeLine_eq, atI, ixN, keysK_two]
theorem lbt_yes {a b c : Int} {kvs : Tab} {r : Option D} {S : Sto} (hz : kvs.length < 16777216) : m_law_bar_table_b1 [r, some (.loc S.length), some (.tup [.int a, .int b, .int c])] (S ++ [.dT kvs]) =
    if (tv kvs a b).isSome = true then .ret .non (S ++ [.dT kvs]) else .nx [r, some (.loc S.length), some (.tup [.int a, .int b, .int c])] (S ++ [.dT (putD kvs [.inl a, .inl b] (.int c))]) := by
  have e2 := lisints (d := .tup [.int a, .int b, .int c]) rfl (fun xs h => by cases h; simp) (S ++ [.dT kvs])
  have e3 := in_tab (neg := false) (a := a) (b := b) (.inl (get_last (S := S) (o := .dT kvs)))
  have h2 : isIs (.tup [.int a, .int b, .int c]) = true := rfl
  rw [h2] at e2
  cases hi : (tv kvs a b).isSome with
  | true => rw [hi] at e3; simp [m_law_bar_table_b1, e2, e3, sizeLine_eq, atI, ixN]
  | false => rw [hi] at e3; simp [m_law_bar_table_b1, e2, e3, hz, sizeLine_eq, atI, ixN, keysK_two]
theorem barStep_yes {a b c : Int} {kvs : Tab} : barStep (.tup [.int a, .int b, .int c]) kvs = if (tv kvs a b).isSome = true then none else some (putD kvs [.inl a, .inl b] (.int c)) := rfl
/-- both loops at once -/
theorem bt_loopG {body : Ms} {r : Option D} {all : List D} {S : Sto} (hno : ∀ (x : D) (kvs : Tab), RwD x → ¬ (isRow3 x = true ∧ isIs x = true) → body [r, some (.loc S.length), some x] (S ++ [.dT kvs]) = .ret .non (S ++ [.dT kvs]))
    (hyes : ∀ (a b c : Int) (kvs : Tab), kvs.length < 16777216 → body [r, some (.loc S.length), some (.tup [.int a, .int b, .int c])] (S ++ [.dT kvs]) =
      if (tv kvs a b).isSome = true then .ret .non (S ++ [.dT kvs]) else .nx [r, some (.loc S.length), some (.tup [.int a, .int b, .int c])] (S ++ [.dT (putD kvs [.inl a, .inl b] (.int c))])) :
    ∀ (xs : List D) (kvs : Tab) (y : Option D), (∀ x ∈ xs, RwD x) → kvs.length + xs.length ≤ 100000 →
    (∀ kvs', barT xs kvs = some kvs' → ∃ y', forL (.its all) (gN 2) body xs [r, some (.loc S.length), y] (S ++ [.dT kvs]) = .nx [r, some (.loc S.length), y'] (S ++ [.dT kvs'])) ∧
    (barT xs kvs = none → ∃ kvs', forL (.its all) (gN 2) body xs [r, some (.loc S.length), y] (S ++ [.dT kvs]) = .ret .non (S ++ [.dT kvs']))
  | [], kvs, y, _, _ => ⟨fun kvs' h => by cases h; exact ⟨y, by rw [forL_nil]; rfl⟩, fun h => by cases h⟩
  | x :: xs, kvs, y, hx, hz => by
    rw [List.length_cons] at hz
    have hx0 := hx x (by simp)
    by_cases hc : isRow3 x = true ∧ isIs x = true
    · obtain ⟨a, b, c, rfl⟩ := row3_cases hc.1 hc.2
      have e := hyes a b c kvs (by omega)
      cases hi : (tv kvs a b).isSome with
      | true =>
        rw [hi] at e
        simp only [if_true] at e
        have hb : barT (.tup [.int a, .int b, .int c] :: xs) kvs = none := by
          simp only [barT, barStep_yes, hi, if_true, Option.bind_none]
        rw [hb]
        refine ⟨(fun kvs' h => by cases h), fun _ => ⟨kvs, ?_⟩⟩
        rw [forL_cons, chk_its, nx_of e]
      | false =>
        rw [hi] at e
        simp only [Bool.false_eq_true, if_false] at e
        have hb : barT (.tup [.int a, .int b, .int c] :: xs) kvs = barT xs (putD kvs [.inl a, .inl b] (.int c)) := by
          simp only [barT, barStep_yes, hi, Bool.false_eq_true, if_false, Option.bind_some]
        rw [hb]
        have hp := put_len kvs [.inl a, .inl b] (.int c)
        have ih := bt_loopG (all := all) hno hyes xs (putD kvs [.inl a, .inl b] (.int c)) (some (.tup [.int a, .int b, .int c])) (fun z hz => hx z (by simp [hz])) (by omega)
        refine ⟨fun kvs' h => ?_, fun h => ?_⟩
        · obtain ⟨y', e'⟩ := ih.1 kvs' h
          exact ⟨y', by rw [forL_cons, chk_its, nx_of e]; exact e'⟩
        · obtain ⟨kvs', e'⟩ := ih.2 h
          exact ⟨kvs', by rw [forL_cons, chk_its, nx_of e]; exact e'⟩
    · have e := hno x kvs hx0 hc
      have hb : barT (x :: xs) kvs = none := by simp only [barT, barStep_no hc, Option.bind_none]
      rw [hb]
      refine ⟨(fun kvs' h => by cases h), fun _ => ⟨kvs, ?_⟩⟩
      rw [forL_cons, chk_its, nx_of e]
theorem pbt_tup {xs : List D} {S : Sto} (hx : ∀ x ∈ xs, RwD x) (hz : xs.length ≤ 100000) :
    (∀ kvs, barT xs [] = some kvs → fbar_table [.tup xs] S = .ok (.loc S.length) (S ++ [.dT kvs])) ∧ (barT xs [] = none → fbar_table [.tup xs] S = .ok .non S) := by
  have h := bt_loopG (body := mbar_table_b1) (r := some (.tup xs)) (all := xs) (S := S) (fun x kvs a b => pbt_no (kvs := kvs) a b) (fun a b c kvs hz => pbt_yes hz) xs [] none hx (by simpa using hz)
  have er : ([D.tup xs].map some ++ List.replicate (3 - 1) none : Sd) = [some (.tup xs), none, none] := rfl
  refine ⟨fun kvs hk => ?_, fun hk => ?_⟩
  · obtain ⟨y', e⟩ := h.1 kvs hk
    have em : mbar_table [some (.tup xs), none, none] S = .ret (.loc S.length) (S ++ [.dT kvs]) := by simp [mbar_table, k6, e]
    unfold fbar_table runB
    rw [er, em]
    exact trim_new1
  · obtain ⟨kvs', e⟩ := h.2 hk
    have em : mbar_table [some (.tup xs), none, none] S = .ret .non (S ++ [.dT kvs']) := by simp [mbar_table, k6, e]
    unfold fbar_table runB
    rw [er, em]
    exact trim_pre rfl
theorem lbt_tup {xs : List D} {S : Sto} (hx : ∀ x ∈ xs, RwD x) (hz : xs.length ≤ 100000) :
    (∀ kvs, barT xs [] = some kvs → f_law_bar_table [.tup xs] S = .ok (.loc S.length) (S ++ [.dT kvs])) ∧ (barT xs [] = none → f_law_bar_table [.tup xs] S = .ok .non S) := by
  have h := bt_loopG (body := m_law_bar_table_b1) (r := some (.tup xs)) (all := xs) (S := S) (fun x kvs a b => lbt_no (kvs := kvs) a b) (fun a b c kvs hz => lbt_yes hz) xs [] none hx (by simpa using hz)
  have er : ([D.tup xs].map some ++ List.replicate (3 - 1) none : Sd) = [some (.tup xs), none, none] := rfl
  refine ⟨fun kvs hk => ?_, fun hk => ?_⟩
  · obtain ⟨y', e⟩ := h.1 kvs hk
    have em : m_law_bar_table [some (.tup xs), none, none] S = .ret (.loc S.length) (S ++ [.dT kvs]) := by simp [m_law_bar_table, k6, e]
    unfold f_law_bar_table runB
    rw [er, em]
    exact trim_new1
  · obtain ⟨kvs', e⟩ := h.2 hk
    have em : m_law_bar_table [some (.tup xs), none, none] S = .ret .non (S ++ [.dT kvs']) := by simp [m_law_bar_table, k6, e]
    unfold f_law_bar_table runB
    rw [er, em]
    exact trim_pre rfl
theorem pbt_non {d : D} (h : pl d = true) (ht : ∀ xs, d ≠ .tup xs) (S : Sto) : fbar_table [d] S = .ok .non S := by
  cases d with
  | tup xs => exact absurd rfl (ht xs)
  | _ => simp [pl] at h <;> simp [fbar_table, runB, mbar_table, k7, k8, k9, trim_self]
theorem lbt_non {d : D} (h : pl d = true) (ht : ∀ xs, d ≠ .tup xs) (S : Sto) : f_law_bar_table [d] S = .ok .non S := by
  cases d with
  | tup xs => exact absurd rfl (ht xs)
  | _ => simp [pl] at h <;> simp [f_law_bar_table, runB, m_law_bar_table, k7, k8, k9, trim_self]
end G
set_option linter.all false
set_option maxRecDepth 100000
set_option maxHeartbeats 4000000
namespace G
open PySem PySem.Spec PyProof.Rows L2 FL
variable [KMap]
/-! ### followers -/
def flD (f : Int) (w : Int × Int) : D := .tup [.int w.1, .int (f + 1), .int w.2]
theorem fo_b1 {S : Sto} {sp : D} {f s n gn : Int} {q : Nat} {ws : List D} (hq : S[q]? = some (.lst ws)) (hz : ws.length < 16777216) (hc : metF [(0, fSpread__gain)] sp S = some fSpread__gain) (eg : fSpread__gain [sp, .int f, .int s] S = .ok (.int gn) S) :
    mfollowers_b1 [some sp, some (.int f), some (.int s), some (.loc q), some (.int n)] S = .nx [some sp, some (.int f), some (.int s), some (.loc q), some (.int n)] (S.set q (.lst (ws ++ [.tup [.int gn, .int (f + 1), .int n]]))) := by
  simp [mfollowers_b1, hc, eg, hq, hz, sizeLine_eq]
theorem met_of {S : Sto} {n : Nat} {t d l g : Int} {F : FnL} (h : S[n]? = some (sprO t d l g)) : metF [(0, F)] (.loc n) S = some F := by
  unfold sprO at h
  simp only [metF, h]
  rfl
theorem fo_loop {p : Par} {S : Sto} {n : Nat} {l f s : Int} {NL : List D} (hS : S[n]? = some (sprO p.T p.D l p.g)) (w0 : List (Int × Int)) (hw : w0.length ≤ 1) (news : List Int) (hN : NL = news.map D.int) (hn : news.length ≤ 2000) (x : Option D) :
    ∃ y, forL (.at_ (S.length + 1) (.lst NL) NL) (gN 4) mfollowers_b1 NL [some (.loc n), some (.int f), some (.int s), some (.loc S.length), x] (S ++ [O.lst (w0.map (flD f)), O.lst NL]) =
      .nx [some (.loc n), some (.int f), some (.int s), some (.loc S.length), y] (S ++ [O.lst ((w0 ++ news.map fun n => (p.gain f s, n)).map (flD f)), O.lst NL]) := by
  have h := for_src (src := .at_ (S.length + 1) (.lst NL) NL) (g := gN 4) (b := mfollowers_b1) (σ := [some (.loc n), some (.int f), some (.int s), some (.loc S.length), x]) (S := S ++ [O.lst (w0.map (flD f)), O.lst NL])
    (fun i σ S' => ∃ y, σ = [some (.loc n), some (.int f), some (.int s), some (.loc S.length), y] ∧ S' = S ++ [O.lst ((w0 ++ (news.take i).map fun n => (p.gain f s, n)).map (flD f)), O.lst NL])
    ⟨x, rfl, by simp⟩ (fun i σ S' h => by obtain ⟨y, _, rfl⟩ := h; show (S ++ [_, _])[S.length + 1]? = _; simp) (by
      intro i d σ S' hd h
      obtain ⟨y, rfl, rfl⟩ := h
      have hd : NL[i]? = some d := hd
      rw [hN, List.getElem?_map, Option.map_eq_some_iff] at hd
      obtain ⟨z, hz, rfl⟩ := hd
      have hS' := app_get hS [O.lst ((w0 ++ (news.take i).map fun n => (p.gain f s, n)).map (flD f)), O.lst NL]
      have hc := met_of (F := fSpread__gain) hS'
      have hq : (S ++ [O.lst ((w0 ++ (news.take i).map fun n => (p.gain f s, n)).map (flD f)), O.lst NL])[S.length]? = some (.lst ((w0 ++ (news.take i).map fun n => (p.gain f s, n)).map (flD f))) := by simp
      have hil := lt_of_some hz
      have e := fo_b1 (n := z) hq (by simp; omega) hc (gain_eq hS' f s)
      refine ⟨_, _, .inl (nx_of e), some (.int z), rfl, ?_⟩
      rw [List.take_add_one, hz]
      simp [flD, Par.gain])
  obtain ⟨σ', S', e, y, rfl, rfl⟩ := h
  have hlen : (Src.at_ (S.length + 1) (.lst NL) NL).items.length = news.length := by simp [hN]
  rw [hlen, List.take_length] at e
  exact ⟨y, e⟩
theorem fo_m {S S2 S3 : Sto} {n : Nat} {t d l g f s : Int} {w0 NL : List D} {y : Option D} (hS : S[n]? = some (sprO t d l g)) (hw : w0 = if f ≤ s + (d + l) then [.tup [.int 0, .int (f + 1), .int s]] else [])
    (e1 : fSpread__stamps [.loc n, .int f, .int s] (S ++ [O.lst w0]) = .ok (.loc (S.length + 1)) (S ++ [O.lst w0, O.lst NL]))
    (e2 : forL (.at_ (S.length + 1) (.lst NL) NL) (gN 4) mfollowers_b1 NL [some (.loc n), some (.int f), some (.int s), some (.loc S.length), none] (S ++ [O.lst w0, O.lst NL]) = .nx [some (.loc n), some (.int f), some (.int s), some (.loc S.length), y] S3) :
    mfollowers [some (.loc n), some (.int f), some (.int s), none, none] S = .ret (.loc S.length) S3 := by
  have hS1 := app_get hS [O.lst []]
  have hS2 := app_get hS [O.lst w0]
  have hc1 : metF [(0, fSpread__can_wait)] (.loc n) (S ++ [O.lst []]) = some fSpread__can_wait := by unfold sprO at hS1; simp [metF, hS1]
  have hc2 : metF [(0, fSpread__stamps)] (.loc n) (S ++ [O.lst w0]) = some fSpread__stamps := by unfold sprO at hS2; simp [metF, hS2]
  have e0 := wait_can_eq hS1 f s
  have hk : (S ++ [O.lst w0, O.lst NL])[S.length + 1]? = some (.lst NL) := by simp
  by_cases h : f ≤ s + (d + l)
  · rw [if_pos h] at hw
    subst hw
    simp [mfollowers, hc1, hc2, e0, h, e1, hk, e2, sizeLine_eq]
  · rw [if_neg h] at hw
    subst hw
    simp [mfollowers, hc1, hc2, e0, h, e1, hk, e2, sizeLine_eq]
theorem followers_eq {p : Par} {S : Sto} {n : Nat} {l f s : Int} (hl : p.D + l = p.L) (hS : S[n]? = some (sprO p.T p.D l p.g)) (hf : -1 ≤ f ∧ f ≤ 1000) (hs : -1 ≤ s ∧ s ≤ 1000) (hd : p.D ≤ 1000) :
    ffollowers [.loc n, .int f, .int s] S = .ok (.loc S.length) (S ++ [O.lst ((p.ways f s).map (flD f))]) := by
  have hD := p.hD
  obtain ⟨w0, hw0⟩ : ∃ w0 : List (Int × Int), w0 = if f ≤ s + p.L then [(0, s)] else [] := ⟨_, rfl⟩
  have e1 := stamps_eq (app_get hS [O.lst (w0.map (flD f))]) f s hf hs (by omega)
  have hL : (rgD (max (s + 1) (f - p.D)) (f + 1 - max (s + 1) (f - p.D)).toNat) = (p.news f s).map D.int := by rw [rgD_rgI]; rfl
  rw [hL, List.append_assoc] at e1
  have e1' : fSpread__stamps [.loc n, .int f, .int s] (S ++ [O.lst (w0.map (flD f))]) = .ok (.loc (S.length + 1)) (S ++ [O.lst (w0.map (flD f)), O.lst ((p.news f s).map D.int)]) := by
    rw [e1]; simp
  obtain ⟨y, e2⟩ := fo_loop (p := p) (l := l) (f := f) (s := s) hS w0 (by rw [hw0]; split <;> simp) (p.news f s) rfl (by simp only [Par.news, rgI, List.length_map, List.length_range, Par.lo]; omega) none
  have em := fo_m (S2 := S) hS (w0 := w0.map (flD f)) (by rw [hw0, hl]; split <;> rfl) e1' e2
  have hw : w0 ++ (p.news f s).map (fun n => (p.gain f s, n)) = p.ways f s := by rw [hw0]; rfl
  rw [hw] at em
  have er : ([D.loc n, D.int f, D.int s].map some ++ List.replicate (5 - 3) none : Sd) = [some (.loc n), some (.int f), some (.int s), none, none] := rfl
  unfold ffollowers runB
  rw [er, em]
  refine trim_new (by simp) (by simp) ?_
  simp only [O.und]
  rw [unds_all, List.all_eq_true]
  intro d hd
  obtain ⟨w, _, rfl⟩ := List.mem_map.mp hd
  simp [flD]
/-! ### one row is closed -/
def restOk (p : Par) (kvs : Tab) (fr f num : Int) (w : Int × Int) : Bool :=
  if ¬ p.over w.2 ∧ f + 1 < fr then (match tv kvs (f + 1) w.2 with
    | some (.int r) => decide (w.1 + r ≤ num)
    | _ => false) else decide (w.1 ≤ num)
def kvI (kvs : Tab) : Prop := ∀ e ∈ kvs, ∃ i, e.2 = .int i
theorem kvI_tv {kvs : Tab} (h : kvI kvs) {f s : Int} {d : D} (e : tv kvs f s = some d) : ∃ i, d = .int i := by
  unfold tv valD at e
  rw [Option.map_eq_some_iff] at e
  obtain ⟨x, hx, rfl⟩ := e
  exact h x (List.mem_of_find?_eq_some hx)
theorem ic_b1 {S : Sto} {n m : Nat} {t d l g f s num gn nw fr : Int} {rs : Option D} {kvs : Tab} (hS : S[n]? = some (sprO t d l g)) (hM : TabAt S m kvs) (hI : kvI kvs) (hfr : fr = t + (3 * (d + l) + 3)) (hnum : tv kvs f s = some (.int num)) {b : Bool}
    (hb : b = if ¬ t - 1 ≤ nw + g ∧ f + 1 < fr then (match tv kvs (f + 1) nw with
        | some (.int r) => decide (gn + r ≤ num)
        | _ => false) else decide (gn ≤ num)) :
    ∃ rs', mis_closed_b1 [some (.loc n), some (.loc m), some (.int f), some (.int s), some (.int gn), some (.int (f + 1)), some (.int nw), rs] S =
      if b = true then .nx [some (.loc n), some (.loc m), some (.int f), some (.int s), some (.int gn), some (.int (f + 1)), some (.int nw), rs'] S else .ret (.bl false) S := by
  have e := over_eq hS nw
  have hc : metF [(0, fSpread__is_over)] (.loc n) S = some fSpread__is_over := by unfold sprO at hS; simp [metF, hS]
  have hfl : fldD [(0, 4)] (.loc n) S = some (.int fr) := by subst hfr; unfold sprO at hS; simp [fldD, hS]
  have hin := in_tab (neg := true) (a := f + 1) (b := nw) hM
  have hsu := sub_tab (a := f + 1) (b := nw) hM
  have hsn := sub_tab (a := f) (b := s) hM
  rw [hnum] at hsn
  by_cases ho : t - 1 ≤ nw + g
  · refine ⟨some (.int 0), ?_⟩
    rw [if_neg (fun z => z.1 ho)] at hb
    subst hb
    by_cases hg : gn ≤ num
    · have hg' : ¬ num < gn := by omega
      simp [mis_closed_b1, hc, e, ho, hsn, hg, hg', sizeLine_eq]
    · have hg' : num < gn := by omega
      simp [mis_closed_b1, hc, e, ho, hsn, hg, hg', sizeLine_eq]
  · by_cases hf : f + 1 < fr
    · rw [if_pos ⟨ho, hf⟩] at hb
      cases hv : tv kvs (f + 1) nw with
      | none =>
        rw [hv] at hin hsu hb
        subst hb
        exact ⟨none, by simp [mis_closed_b1, hc, e, ho, hfl, hf, hin, sizeLine_eq]⟩
      | some r =>
        obtain ⟨r, rfl⟩ := kvI_tv hI hv
        rw [hv] at hin hsu hb
        subst hb
        refine ⟨some (.int r), ?_⟩
        by_cases hg : gn + r ≤ num
        · have hg' : ¬ num < gn + r := by omega
          simp [mis_closed_b1, hc, e, ho, hfl, hf, hin, hsu, hsn, hg, hg', sizeLine_eq]
        · have hg' : num < gn + r := by omega
          simp [mis_closed_b1, hc, e, ho, hfl, hf, hin, hsu, hsn, hg, hg', sizeLine_eq]
    · refine ⟨some (.int 0), ?_⟩
      rw [if_neg (fun z => hf z.2)] at hb
      subst hb
      by_cases hg : gn ≤ num
      · have hg' : ¬ num < gn := by omega
        simp [mis_closed_b1, hc, e, ho, hfl, hf, hsn, hg, hg', sizeLine_eq]
      · have hg' : num < gn := by omega
        simp [mis_closed_b1, hc, e, ho, hfl, hf, hsn, hg, hg', sizeLine_eq]
end G
set_option linter.all false
set_option maxRecDepth 100000
set_option maxHeartbeats 4000000
namespace G
open PySem PySem.Spec PyProof.Rows L2 FL
variable [KMap]
theorem nx_of3 {i j k : Nat} {a b c : D} {σ : Sd} {S : Sto} {bd : Ms} {r : Fl} (h : bd (((σ.set i (some a)).set j (some b)).set k (some c)) S = r) :
    ((gTp 3 (gsCons (gN i) (gsCons (gN j) (gsCons (gN k) gsNil)))) (.tup [a, b, c]) σ S).fl bd = r := by
  have e : (gTp 3 (gsCons (gN i) (gsCons (gN j) (gsCons (gN k) gsNil)))) (.tup [a, b, c]) σ S = .ok (((σ.set i (some a)).set j (some b)).set k (some c)) S := rfl
  rw [e, R.fl_ok]; exact h
theorem ic_loop {p : Par} {S : Sto} {n m q : Nat} {l f s num fr : Int} {kvs : Tab} {all : List D} (hl : p.D + l = p.L) (hS : S[n]? = some (sprO p.T p.D l p.g)) (hM : TabAt S m kvs) (hI : kvI kvs) (hfr : fr = p.T + (3 * p.L + 3)) (hnum : tv kvs f s = some (.int num)) (hQ : S[q]? = some (.lst all)) :
    ∀ (ws : List (Int × Int)) (x y z r : Option D), ∃ x' y' z' r', forL (.at_ q (.lst all) all) (gTp 3 (gsCons (gN 4) (gsCons (gN 5) (gsCons (gN 6) gsNil)))) mis_closed_b1 (ws.map (flD f)) [some (.loc n), some (.loc m), some (.int f), some (.int s), x, y, z, r] S =
      if ws.all (restOk p kvs fr f num) = true then .nx [some (.loc n), some (.loc m), some (.int f), some (.int s), x', y', z', r'] S else .ret (.bl false) S
  | [], x, y, z, r => ⟨x, y, z, r, by rw [List.map_nil, forL_nil, chk_lst hQ]; rfl⟩
  | w :: ws, x, y, z, r => by
    obtain ⟨r1, e⟩ := ic_b1 (gn := w.1) (nw := w.2) (rs := r) (b := restOk p kvs fr f num w) hS hM hI (by rw [hfr, hl]) hnum rfl
    obtain ⟨x', y', z', r', e2⟩ := ic_loop hl hS hM hI hfr hnum hQ ws (some (.int w.1)) (some (.int (f + 1))) (some (.int w.2)) r1
    refine ⟨x', y', z', r', ?_⟩
    rw [List.map_cons, forL_cons, chk_lst hQ, show flD f w = .tup [.int w.1, .int (f + 1), .int w.2] from rfl, nx_of3 e]
    cases hb : restOk p kvs fr f num w with
    | true => simp only [if_true, List.all_cons, hb, Bool.true_and]; exact e2
    | false => simp [hb]
/-- the pair may stand in a bar -/
def rgF (p : Par) (fr f s : Int) : Bool := decide (0 ≤ f ∧ -1 ≤ s ∧ s < f ∧ f < fr ∧ ¬ p.over s)
theorem ic_m {S S2 : Sto} {n m q : Nat} {t d l g f s fr : Int} {ws : List D} {b : Bool} {x y z r : Option D} (hS : S[n]? = some (sprO t d l g)) (hfr : fr = t + (3 * (d + l) + 3))
    (hno : ¬ (0 ≤ f ∧ -1 ≤ s ∧ s < f ∧ f < fr ∧ ¬ t - 1 ≤ s + g) → b = false)
    (e1 : (0 ≤ f ∧ -1 ≤ s ∧ s < f ∧ f < fr ∧ ¬ t - 1 ≤ s + g) → ffollowers [.loc n, .int f, .int s] S = .ok (.loc q) S2 ∧ S2[q]? = some (.lst ws) ∧
      forL (.at_ q (.lst ws) ws) (gTp 3 (gsCons (gN 4) (gsCons (gN 5) (gsCons (gN 6) gsNil)))) mis_closed_b1 ws [some (.loc n), some (.loc m), some (.int f), some (.int s), none, none, none, none] S2 =
        if b = true then .nx [some (.loc n), some (.loc m), some (.int f), some (.int s), x, y, z, r] S2 else .ret (.bl false) S2) :
    ∃ S3, mis_closed [some (.loc n), some (.loc m), some (.int f), some (.int s), none, none, none, none] S = .ret (.bl b) S3 ∧ (S3 = S ∨ S3 = S2) := by
  have e := over_eq hS s
  have hc := met_of (F := fSpread__is_over) hS
  have hfl : fldD [(0, 4)] (.loc n) S = some (.int fr) := by subst hfr; unfold sprO at hS; simp [fldD, hS]
  by_cases h1 : f < 0
  · rw [hno (by omega)]
    exact ⟨S, by simp [mis_closed, h1], .inl rfl⟩
  · by_cases h2 : s < -1
    · rw [hno (by omega)]
      exact ⟨S, by simp [mis_closed, h1, h2], .inl rfl⟩
    · by_cases h3 : f ≤ s
      · rw [hno (by omega)]
        exact ⟨S, by simp [mis_closed, h1, h2, h3], .inl rfl⟩
      · by_cases h4 : fr ≤ f
        · rw [hno (by omega)]
          exact ⟨S, by simp [mis_closed, h1, h2, h3, h4, hfl], .inl rfl⟩
        · by_cases h5 : t - 1 ≤ s + g
          · rw [hno (by omega)]
            exact ⟨S, by simp [mis_closed, h1, h2, h3, h4, hfl, hc, e, h5], .inl rfl⟩
          · obtain ⟨e2, e3, e4⟩ := e1 (by omega)
            refine ⟨S2, ?_, .inr rfl⟩
            cases b with
            | true =>
              simp only [if_true] at e4
              simp [mis_closed, h1, h2, h3, h4, hfl, hc, e, h5, e2, e3, e4]
            | false =>
              simp only [Bool.false_eq_true, if_false] at e4
              simp [mis_closed, h1, h2, h3, h4, hfl, hc, e, h5, e2, e3, e4]
def rowOk (p : Par) (kvs : Tab) (fr f s num : Int) : Bool := rgF p fr f s && (p.ways f s).all (restOk p kvs fr f num)
theorem is_closed_eq {p : Par} {S : Sto} {n m : Nat} {l f s num fr : Int} {kvs : Tab} (hl : p.D + l = p.L) (hS : S[n]? = some (sprO p.T p.D l p.g)) (hM : TabAt S m kvs) (hI : kvI kvs) (hfr : fr = p.T + (3 * p.L + 3)) (hnum : tv kvs f s = some (.int num)) (hb1 : p.T ≤ 100) (hb2 : p.L ≤ 100) :
    fis_closed [.loc n, .loc m, .int f, .int s] S = .ok (.bl (rowOk p kvs fr f s num)) S := by
  have hDL := p.hDL
  have hS2 := app_get hS [O.lst ((p.ways f s).map (flD f))]
  have hM2 := tab_app hM [O.lst ((p.ways f s).map (flD f))]
  have hQ : (S ++ [O.lst ((p.ways f s).map (flD f))])[S.length]? = some (.lst ((p.ways f s).map (flD f))) := get_last
  obtain ⟨x, y, z, r, el⟩ := ic_loop hl hS2 hM2 hI hfr hnum hQ (p.ways f s) none none none none
  obtain ⟨S3, em, hS3⟩ := ic_m (m := m) (q := S.length) (ws := (p.ways f s).map (flD f)) (b := rowOk p kvs fr f s num) (x := x) (y := y) (z := z) (r := r) (fr := fr) hS (by rw [hfr, hl]) (fun h => by
    unfold rowOk rgF
    rw [decide_eq_false (show ¬ (0 ≤ f ∧ -1 ≤ s ∧ s < f ∧ f < fr ∧ ¬ p.over s) from h)]; rfl) (fun h => by
    refine ⟨followers_eq hl hS (by omega) (by omega) (by omega), hQ, ?_⟩
    unfold rowOk rgF
    rw [decide_eq_true (show 0 ≤ f ∧ -1 ≤ s ∧ s < f ∧ f < fr ∧ ¬ p.over s from h), Bool.true_and]
    exact el)
  have er : ([D.loc n, D.loc m, D.int f, D.int s].map some ++ List.replicate (8 - 4) none : Sd) = [some (.loc n), some (.loc m), some (.int f), some (.int s), none, none, none, none] := rfl
  unfold fis_closed runB
  rw [er, em]
  rcases hS3 with rfl | rfl
  · exact trim_self (by simp)
  · exact trim_pre (by simp)
/-! ### the law's rows -/
theorem lb_b1 {S : Sto} {m : Nat} {t d l g f s num gn nw fr : Int} {tot rows rs : Option D} {kvs : Tab} (hM : TabAt S m kvs) (hI : kvI kvs) {b : Bool}
    (hb : b = if ¬ t - 1 ≤ nw + g ∧ f + 1 < fr then (match tv kvs (f + 1) nw with
        | some (.int r) => decide (gn + r ≤ num)
        | _ => false) else decide (gn ≤ num)) :
    ∃ rs', m_law_is_bar_b1 [some (.int t), some (.int d), some (.int l), some (.int g), tot, rows, some (.int fr), some (.loc m), some (.int f), some (.int s), some (.int num), some (.int gn), some (.int nw), rs] S =
      if b = true then .nx [some (.int t), some (.int d), some (.int l), some (.int g), tot, rows, some (.int fr), some (.loc m), some (.int f), some (.int s), some (.int num), some (.int gn), some (.int nw), rs'] S else .ret (.bl false) S := by
  have hin := in_tab (neg := true) (a := f + 1) (b := nw) hM
  have hsu := sub_tab (a := f + 1) (b := nw) hM
  by_cases ho : t - 1 ≤ nw + g
  · refine ⟨some (.int 0), ?_⟩
    have ho' : ¬ nw + g < t - 1 := by omega
    rw [if_neg (fun z => z.1 ho)] at hb
    subst hb
    by_cases hg : gn ≤ num
    · have hg' : ¬ num < gn := by omega
      simp [m_law_is_bar_b1, ho', hg, hg', sizeLine_eq]
    · have hg' : num < gn := by omega
      simp [m_law_is_bar_b1, ho', hg, hg', sizeLine_eq]
  · have ho' : nw + g < t - 1 := by omega
    by_cases hf : f + 1 < fr
    · rw [if_pos ⟨ho, hf⟩] at hb
      cases hv : tv kvs (f + 1) nw with
      | none =>
        rw [hv] at hin hsu hb
        subst hb
        exact ⟨none, by simp [m_law_is_bar_b1, ho', hf, hin, sizeLine_eq]⟩
      | some r =>
        obtain ⟨r, rfl⟩ := kvI_tv hI hv
        rw [hv] at hin hsu hb
        subst hb
        refine ⟨some (.int r), ?_⟩
        by_cases hg : gn + r ≤ num
        · have hg' : ¬ num < gn + r := by omega
          simp [m_law_is_bar_b1, ho', hf, hin, hsu, hg, hg', sizeLine_eq]
        · have hg' : num < gn + r := by omega
          simp [m_law_is_bar_b1, ho', hf, hin, hsu, hg, hg', sizeLine_eq]
    · refine ⟨some (.int 0), ?_⟩
      rw [if_neg (fun z => hf z.2)] at hb
      subst hb
      by_cases hg : gn ≤ num
      · have hg' : ¬ num < gn := by omega
        simp [m_law_is_bar_b1, ho', hf, hg, hg', sizeLine_eq]
      · have hg' : num < gn := by omega
        simp [m_law_is_bar_b1, ho', hf, hg, hg', sizeLine_eq]
theorem lb_loop {p : Par} {S : Sto} {m q : Nat} {l f s num fr : Int} {kvs : Tab} {all : List D} {tot rows : Option D} (hM : TabAt S m kvs) (hI : kvI kvs) (hQ : S[q]? = some (.lst all)) :
    ∀ (ws : List (Int × Int)) (y z r : Option D), ∃ y' z' r', forL (.at_ q (.lst all) all) (gTp 2 (gsCons (gN 11) (gsCons (gN 12) gsNil))) m_law_is_bar_b1 (ws.map evD) [some (.int p.T), some (.int p.D), some (.int l), some (.int p.g), tot, rows, some (.int fr), some (.loc m), some (.int f), some (.int s), some (.int num), y, z, r] S =
      if ws.all (restOk p kvs fr f num) = true then .nx [some (.int p.T), some (.int p.D), some (.int l), some (.int p.g), tot, rows, some (.int fr), some (.loc m), some (.int f), some (.int s), some (.int num), y', z', r'] S else .ret (.bl false) S
  | [], y, z, r => ⟨y, z, r, by rw [List.map_nil, forL_nil, chk_lst hQ]; rfl⟩
  | w :: ws, y, z, r => by
    obtain ⟨r1, e⟩ := lb_b1 (t := p.T) (d := p.D) (l := l) (g := p.g) (f := f) (s := s) (num := num) (gn := w.1) (nw := w.2) (fr := fr) (tot := tot) (rows := rows) (rs := r) (b := restOk p kvs fr f num w) hM hI rfl
    obtain ⟨y', z', r', e2⟩ := lb_loop (p := p) (l := l) (f := f) (s := s) (num := num) (fr := fr) (tot := tot) (rows := rows) hM hI hQ ws (some (.int w.1)) (some (.int w.2)) r1
    refine ⟨y', z', r', ?_⟩
    rw [List.map_cons, forL_cons, chk_lst hQ, show evD w = .tup [.int w.1, .int w.2] from rfl, nx_of2 e]
    cases hb : restOk p kvs fr f num w with
    | true => simp only [if_true, List.all_cons, hb, Bool.true_and]; exact e2
    | false => simp [hb]
theorem lb_m {S S2 : Sto} {m q : Nat} {t d l g f s num fr : Int} {tot rows : Option D} {ws : List D} {b : Bool} {x y z x' y' z' : Option D}
    (hno : ¬ (0 ≤ f ∧ -1 ≤ s ∧ s < f ∧ f < fr ∧ ¬ t - 1 ≤ s + g) → b = false)
    (e1 : (0 ≤ f ∧ -1 ≤ s ∧ s < f ∧ f < fr ∧ ¬ t - 1 ≤ s + g) → f_law_ways [.int t, .int d, .int l, .int g, .int f, .int s] S = .ok (.loc q) S2 ∧ S2[q]? = some (.lst ws) ∧
      forL (.at_ q (.lst ws) ws) (gTp 2 (gsCons (gN 11) (gsCons (gN 12) gsNil))) m_law_is_bar_b1 ws [some (.int t), some (.int d), some (.int l), some (.int g), tot, rows, some (.int fr), some (.loc m), some (.int f), some (.int s), some (.int num), x, y, z] S2 =
        if b = true then .nx [some (.int t), some (.int d), some (.int l), some (.int g), tot, rows, some (.int fr), some (.loc m), some (.int f), some (.int s), some (.int num), x', y', z'] S2 else .ret (.bl false) S2) :
    (b = true → m_law_is_bar_b2 [some (.int t), some (.int d), some (.int l), some (.int g), tot, rows, some (.int fr), some (.loc m), some (.int f), some (.int s), some (.int num), x, y, z] S =
      .nx [some (.int t), some (.int d), some (.int l), some (.int g), tot, rows, some (.int fr), some (.loc m), some (.int f), some (.int s), some (.int num), x', y', z'] S2) ∧
    (b = false → ∃ S3, m_law_is_bar_b2 [some (.int t), some (.int d), some (.int l), some (.int g), tot, rows, some (.int fr), some (.loc m), some (.int f), some (.int s), some (.int num), x, y, z] S = .ret (.bl false) S3 ∧ (S3 = S ∨ S3 = S2)) := by
  by_cases h1 : 0 ≤ f
  · by_cases h4 : f < fr
    · by_cases h2 : -1 ≤ s
      · by_cases h3 : s < f
        · by_cases h5 : t - 1 ≤ s + g
          · have := hno (by omega)
            subst this
            have h5' : ¬ s + g < t - 1 := by omega
            exact ⟨(fun z => nomatch z), fun _ => ⟨S, by simp [m_law_is_bar_b2, h1, h2, h3, h4, h5'], .inl rfl⟩⟩
          · have h5' : s + g < t - 1 := by omega
            obtain ⟨e2, e3, e4⟩ := e1 (by omega)
            cases b with
            | true =>
              simp only [if_true] at e4
              exact ⟨fun _ => by simp [m_law_is_bar_b2, h1, h2, h3, h4, h5', e2, e3, e4], (fun z => nomatch z)⟩
            | false =>
              simp only [Bool.false_eq_true, if_false] at e4
              exact ⟨(fun z => nomatch z), fun _ => ⟨S2, by simp [m_law_is_bar_b2, h1, h2, h3, h4, h5', e2, e3, e4], .inr rfl⟩⟩
        · have := hno (by omega)
          subst this
          exact ⟨(fun z => nomatch z), fun _ => ⟨S, by simp [m_law_is_bar_b2, h1, h2, h3, h4], .inl rfl⟩⟩
      · have := hno (by omega)
        subst this
        exact ⟨(fun z => nomatch z), fun _ => ⟨S, by simp [m_law_is_bar_b2, h1, h2, h4], .inl rfl⟩⟩
    · have := hno (by omega)
      subst this
      exact ⟨(fun z => nomatch z), fun _ => ⟨S, by simp [m_law_is_bar_b2, h1, h4], .inl rfl⟩⟩
  · have := hno (by omega)
    subst this
    exact ⟨(fun z => nomatch z), fun _ => ⟨S, by simp [m_law_is_bar_b2, h1], .inl rfl⟩⟩
end G
set_option linter.all false
set_option maxRecDepth 100000
set_option maxHeartbeats 4000000
namespace G
open PySem PySem.Spec PyProof.Rows L2 FL
variable [KMap]
/-! ### what a right table is made of -/
abbrev Tr := Int × Int × Int
def trD (t : Tr) : D := .tup [.int t.1, .int t.2.1, .int t.2.2]
def trK (t : Tr) : List Key × D := (kp (t.1, t.2.1), .int t.2.2)
theorem put_fresh {kvs : Tab} {a b : Int} {v : D} (h : (tv kvs a b).isSome = false) : putD kvs [.inl a, .inl b] v = kvs ++ [(kp (a, b), v)] ∧ kp (a, b) ∉ kvs.map (·.1) := by
  have hn : ¬ (kvs.any fun kv => decide (kv.1 = [Sum.inl a, Sum.inl b])) = true := fun z => by
    obtain ⟨e, he, hd⟩ := List.any_eq_true.mp z
    unfold tv valD at h
    rw [Option.isSome_map] at h
    have : (kvs.find? fun kv => decide (kv.1 = [Sum.inl a, Sum.inl b])).isSome = true := by rw [List.find?_isSome]; exact ⟨e, he, hd⟩
    rw [this] at h; cases h
  unfold putD
  rw [if_neg hn]
  refine ⟨rfl, fun z => ?_⟩
  obtain ⟨e, he, hd⟩ := List.mem_map.mp z
  exact hn (List.any_eq_true.mpr ⟨e, he, decide_eq_true hd⟩)
theorem barT_some : ∀ (xs : List D) (kvs kvs' : Tab), (kvs.map (·.1)).Nodup → barT xs kvs = some kvs' → ∃ trs : List Tr, xs = trs.map trD ∧ kvs' = kvs ++ trs.map trK ∧ (kvs'.map (·.1)).Nodup
  | [], kvs, kvs', hn, h => by cases h; exact ⟨[], rfl, by simp, hn⟩
  | x :: xs, kvs, kvs', hn, h => by
    unfold barT at h
    obtain ⟨k1, h1, h2⟩ := Option.bind_eq_some_iff.mp h
    unfold barStep at h1
    split at h1
    · rename_i a b c
      split at h1
      · cases h1
      · rename_i hs
        have hs : (tv kvs a b).isSome = false := by simpa using hs
        cases h1
        obtain ⟨p1, p2⟩ := put_fresh (v := D.int c) hs
        rw [p1] at h2
        obtain ⟨trs, e1, e2, e3⟩ := barT_some xs _ kvs' (by
          rw [List.map_append, List.nodup_append]
          refine ⟨hn, by simp, fun y hy z hz => ?_⟩
          rw [List.map_singleton, List.mem_singleton] at hz
          rw [hz]
          rintro rfl
          exact p2 hy) h2
        exact ⟨(a, b, c) :: trs, by rw [e1]; rfl, by rw [e2]; simp [trK], e3⟩
    · cases h1
theorem val_mem {kvs : Tab} : ∀ {k : List Key} {v : D}, (kvs.map (·.1)).Nodup → (k, v) ∈ kvs → valD kvs k = some v := by
  induction kvs with
  | nil => intro k v _ h; cases h
  | cons e r ih =>
    intro k v hn h
    rw [List.map_cons, List.nodup_cons] at hn
    unfold valD
    rw [List.find?_cons]
    rcases List.mem_cons.mp h with rfl | h
    · simp
    · have hne : ¬ e.1 = k := fun z => hn.1 (List.mem_map.mpr ⟨_, h, z.symm⟩)
      rw [decide_eq_false hne]
      exact ih hn.2 h
/-! ### the judge -/
def kD (t : Tr) : D := .tup [.int t.1, .int t.2.1]
theorem jb_b1 {S : Sto} {t d l g tot rows : Option D} {sp ta : D} {f s : Int} {b : Bool} (e : fis_closed [sp, ta, .int f, .int s] S = .ok (.bl b) S) :
    mjudge_bar_b1 [t, d, l, g, tot, rows, some sp, some ta, some (.int f), some (.int s)] S = if b = true then .nx [t, d, l, g, tot, rows, some sp, some ta, some (.int f), some (.int s)] S else .ret (.bl false) S := by
  cases b <;> simp [mjudge_bar_b1, e]
theorem jb_loop {S : Sto} {t d l g tot rows : Option D} {sp : D} {m : Nat} {kvs : Tab} {all : List D} {ok : Tr → Bool} (hQ : S[m]? = some (.fT kvs)) :
    ∀ (trs : List Tr) (x y : Option D), (∀ r ∈ trs, fis_closed [sp, .loc m, .int r.1, .int r.2.1] S = .ok (.bl (ok r)) S) →
    ∃ x' y', forL (.at_ m (.fT kvs) all) (gTp 2 (gsCons (gN 8) (gsCons (gN 9) gsNil))) mjudge_bar_b1 (trs.map kD) [t, d, l, g, tot, rows, some sp, some (.loc m), x, y] S =
      if trs.all ok = true then .nx [t, d, l, g, tot, rows, some sp, some (.loc m), x', y'] S else .ret (.bl false) S
  | [], x, y, _ => ⟨x, y, by rw [List.map_nil, forL_nil, chk_lst hQ]; rfl⟩
  | r :: trs, x, y, h => by
    have e := jb_b1 (t := t) (d := d) (l := l) (g := g) (tot := tot) (rows := rows) (h r (by simp))
    obtain ⟨x', y', e2⟩ := jb_loop (all := all) (t := t) (d := d) (l := l) (g := g) (tot := tot) (rows := rows) hQ trs (some (.int r.1)) (some (.int r.2.1)) fun r hr => h r (by simp [hr])
    refine ⟨x', y', ?_⟩
    rw [List.map_cons, forL_cons, chk_lst hQ, show kD r = .tup [.int r.1, .int r.2.1] from rfl, nx_of2 e]
    cases hb : ok r with
    | true => simp only [if_true, List.all_cons, hb, Bool.true_and]; exact e2
    | false => simp [hb]
/-- what both judges say of a table -/
def JB (p : Par) (fr : Int) (kvs : Tab) (trs : List Tr) (tot : Int) : Bool :=
  if p.over (-1) then decide (0 ≤ tot) && decide (trs = []) else match tv kvs 0 (-1) with
    | some (.int v) => decide (v ≤ tot) && trs.all fun r => rowOk p kvs fr r.1 r.2.1 r.2.2
    | _ => false
section
variable {S S2 : Sto} {t d l g fr : Int} {rows tot : D}
theorem jb_non (e1 : fSpread____init__ [.loc S.length, .int t, .int d, .int l, .int g] (S ++ [.ins 0 []]) = .ok .non S2) (e2 : fbar_table [rows] S2 = .ok .non S2) :
    mjudge_bar [some (.int t), some (.int d), some (.int l), some (.int g), some tot, some rows, none, none, none, none] S = .ret (.bl false) S2 := by
  simp [mjudge_bar, e1, e2]
theorem jb_tot {m : Nat} {S3 : Sto} (e1 : fSpread____init__ [.loc S.length, .int t, .int d, .int l, .int g] (S ++ [.ins 0 []]) = .ok .non S2) (e2 : fbar_table [rows] S2 = .ok (.loc m) S3) (e3 : fis_int [tot] S3 = .ok (.bl false) S3) :
    mjudge_bar [some (.int t), some (.int d), some (.int l), some (.int g), some tot, some rows, none, none, none, none] S = .ret (.bl false) S3 := by
  simp [mjudge_bar, e1, e2, e3]
theorem jb_over {m : Nat} {S3 : Sto} {T0 : Int} {kvs : Tab} {b : Bool} (e1 : fSpread____init__ [.loc S.length, .int t, .int d, .int l, .int g] (S ++ [.ins 0 []]) = .ok .non S2) (e2 : fbar_table [rows] S2 = .ok (.loc m) S3) (e3 : fis_int [.int T0] S3 = .ok (.bl true) S3)
    (hc : metF [(0, fSpread__is_over)] (.loc S.length) S3 = some fSpread__is_over) (e4 : fSpread__is_over [.loc S.length, .int (-1)] S3 = .ok (.bl true) S3) (hM : S3[m]? = some (.dT kvs)) (hb : b = (decide (0 ≤ T0) && decide (kvs.length = 0))) :
    mjudge_bar [some (.int t), some (.int d), some (.int l), some (.int g), some (.int T0), some rows, none, none, none, none] S = .ret (.bl b) S3 := by
  subst hb
  have h : decide ((kvs.length : Int) = 0) = decide (kvs.length = 0) := decide_eq_decide.mpr (by omega)
  rw [← h]
  have hl := len_dT hM
  generalize (kvs.length : Int) = L at *
  by_cases h0 : 0 ≤ T0
  · simp [mjudge_bar, e1, e2, e3, hc, e4, hl, h0]
  · simp [mjudge_bar, e1, e2, e3, hc, e4, hl, h0]
theorem jb_first {m : Nat} {S3 : Sto} {T0 : Int} {kvs : Tab} (e1 : fSpread____init__ [.loc S.length, .int t, .int d, .int l, .int g] (S ++ [.ins 0 []]) = .ok .non S2) (e2 : fbar_table [rows] S2 = .ok (.loc m) S3) (e3 : fis_int [.int T0] S3 = .ok (.bl true) S3)
    (hc : metF [(0, fSpread__is_over)] (.loc S.length) S3 = some fSpread__is_over) (e4 : fSpread__is_over [.loc S.length, .int (-1)] S3 = .ok (.bl false) S3) (hM : S3[m]? = some (.dT kvs)) (h : ∀ v, tv kvs 0 (-1) = some v → ∃ i, v = .int i ∧ T0 < i) :
    mjudge_bar [some (.int t), some (.int d), some (.int l), some (.int g), some (.int T0), some rows, none, none, none, none] S = .ret (.bl false) S3 := by
  have hin := in_tab (neg := true) (a := 0) (b := -1) (.inl hM)
  have hsu := sub_tab (a := 0) (b := -1) (.inl hM)
  cases hv : tv kvs 0 (-1) with
  | none => rw [hv] at hin hsu; simp [mjudge_bar, e1, e2, e3, hc, e4, hin, sizeLine_eq]
  | some v =>
    obtain ⟨i, rfl, hi⟩ := h v hv
    rw [hv] at hin hsu
    simp [mjudge_bar, e1, e2, e3, hc, e4, hin, hsu, hi, sizeLine_eq]
theorem jb_go {m : Nat} {S3 : Sto} {T0 v : Int} {kvs : Tab} {b : Bool} {x y : Option D} (e1 : fSpread____init__ [.loc S.length, .int t, .int d, .int l, .int g] (S ++ [.ins 0 []]) = .ok .non S2) (e2 : fbar_table [rows] S2 = .ok (.loc m) S3) (e3 : fis_int [.int T0] S3 = .ok (.bl true) S3)
    (hc : metF [(0, fSpread__is_over)] (.loc S.length) S3 = some fSpread__is_over) (e4 : fSpread__is_over [.loc S.length, .int (-1)] S3 = .ok (.bl false) S3) (hM : S3[m]? = some (.dT kvs)) (hv : tv kvs 0 (-1) = some (.int v)) (hi : v ≤ T0) {all : List D} (hall : all = kvs.map fun p => .tup (p.1.map keyD))
    (el : forL (.at_ m (.fT kvs) all) (gTp 2 (gsCons (gN 8) (gsCons (gN 9) gsNil))) mjudge_bar_b1 all [some (.int t), some (.int d), some (.int l), some (.int g), some (.int T0), some rows, some (.loc S.length), some (.loc m), none, none] (S3.set m (.fT kvs)) =
      if b = true then .nx [some (.int t), some (.int d), some (.int l), some (.int g), some (.int T0), some rows, some (.loc S.length), some (.loc m), x, y] (S3.set m (.fT kvs)) else .ret (.bl false) (S3.set m (.fT kvs))) :
    mjudge_bar [some (.int t), some (.int d), some (.int l), some (.int g), some (.int T0), some rows, none, none, none, none] S = .ret (.bl b) S3 := by
  have hin := in_tab (neg := true) (a := 0) (b := -1) (.inl hM)
  have hsu := sub_tab (a := 0) (b := -1) (.inl hM)
  rw [hv] at hin hsu
  have hi' : ¬ T0 < v := by omega
  have hm := lt_of_some hM
  have hF : (S3.set m (O.fT kvs))[m]? = some (.fT kvs) := by rw [List.getElem?_set_self hm]
  have hback : (S3.set m (O.fT kvs)).set m (.dT kvs) = S3 := by
    rw [List.set_set]
    refine List.ext_getElem? fun j => ?_
    by_cases hj : m = j
    · subst hj; rw [List.getElem?_set_self hm, hM]
    · rw [List.getElem?_set_ne hj]
  have hit := it_fT hF
  rw [← hall] at hit
  have hun1 := fun σ => unlS_nx (d := σ) (o := .dT kvs) hF
  have hun2 := fun d => unlS_ret (d := d) (o := .dT kvs) hF
  rw [hback] at hun1 hun2
  cases b with
  | true =>
    simp only [if_true] at el
    simp [mjudge_bar, e1, e2, e3, hc, e4, hin, hsu, hi', hM, hit, el, hun1, sizeLine_eq]
  | false =>
    simp only [Bool.false_eq_true, if_false] at el
    simp [mjudge_bar, e1, e2, e3, hc, e4, hin, hsu, hi', hM, hit, el, hun2, sizeLine_eq]
end
end G
set_option linter.all false
set_option maxRecDepth 100000
set_option maxHeartbeats 4000000
namespace G
open PySem PySem.Spec PyProof.Rows L2 FL
variable [KMap]
theorem lwait_eq (a b : Int) (S : Sto) : f_law_wait [.int a, .int b] S = .ok (.int (3 * (a + b) + 2)) S := by
  simp [f_law_wait, runB, m_law_wait, trim_self]
theorem lframes_eq (t a b : Int) (S : Sto) : f_law_frames [.int t, .int a, .int b] S = .ok (.int (t + (3 * (a + b) + 3))) S := by
  simp [f_law_frames, runB, m_law_frames, lwait_eq, trim_self]; omega
theorem lb_row {p : Par} {S : Sto} {m : Nat} {l fr : Int} {tot rows : Option D} {kvs : Tab} (hl : p.D + l = p.L) (hM : TabAt S m kvs) (hI : kvI kvs) (hfr : fr = p.T + (3 * p.L + 3)) (hb1 : p.T ≤ 100) (hb2 : p.L ≤ 100) (r : Tr) (x y z : Option D) :
    (rowOk p kvs fr r.1 r.2.1 r.2.2 = true → ∃ x' y' z' J, m_law_is_bar_b2 [some (.int p.T), some (.int p.D), some (.int l), some (.int p.g), tot, rows, some (.int fr), some (.loc m), some (.int r.1), some (.int r.2.1), some (.int r.2.2), x, y, z] S =
      .nx [some (.int p.T), some (.int p.D), some (.int l), some (.int p.g), tot, rows, some (.int fr), some (.loc m), some (.int r.1), some (.int r.2.1), some (.int r.2.2), x', y', z'] (S ++ J)) ∧
    (rowOk p kvs fr r.1 r.2.1 r.2.2 = false → ∃ J, m_law_is_bar_b2 [some (.int p.T), some (.int p.D), some (.int l), some (.int p.g), tot, rows, some (.int fr), some (.loc m), some (.int r.1), some (.int r.2.1), some (.int r.2.2), x, y, z] S = .ret (.bl false) (S ++ J)) := by
  have hDL := p.hDL
  have hM2 := tab_app hM [O.lst ((p.ways r.1 r.2.1).map evD)]
  have hQ : (S ++ [O.lst ((p.ways r.1 r.2.1).map evD)])[S.length]? = some (.lst ((p.ways r.1 r.2.1).map evD)) := get_last
  obtain ⟨x', y', z', el⟩ := lb_loop (p := p) (l := l) (f := r.1) (s := r.2.1) (num := r.2.2) (fr := fr) (tot := tot) (rows := rows) hM2 hI hQ (p.ways r.1 r.2.1) x y z
  have h := lb_m (S := S) (m := m) (q := S.length) (t := p.T) (d := p.D) (l := l) (g := p.g) (f := r.1) (s := r.2.1) (num := r.2.2) (fr := fr) (tot := tot) (rows := rows) (ws := (p.ways r.1 r.2.1).map evD) (b := rowOk p kvs fr r.1 r.2.1 r.2.2) (x := x) (y := y) (z := z) (x' := x') (y' := y') (z' := z')
    (fun h => by unfold rowOk rgF; rw [decide_eq_false (show ¬ (0 ≤ r.1 ∧ -1 ≤ r.2.1 ∧ r.2.1 < r.1 ∧ r.1 < fr ∧ ¬ p.over r.2.1) from h)]; rfl) (fun h => by
      refine ⟨ways_eq hl (by omega) (by omega), hQ, ?_⟩
      unfold rowOk rgF
      rw [decide_eq_true (show 0 ≤ r.1 ∧ -1 ≤ r.2.1 ∧ r.2.1 < r.1 ∧ r.1 < fr ∧ ¬ p.over r.2.1 from h), Bool.true_and]
      exact el)
  refine ⟨fun hb => ⟨x', y', z', _, h.1 hb⟩, fun hb => ?_⟩
  obtain ⟨S3, e, h3⟩ := h.2 hb
  rcases h3 with rfl | rfl
  · exact ⟨[], by rw [List.append_nil]; exact e⟩
  · exact ⟨_, e⟩
theorem lb_rows {p : Par} {S : Sto} {m : Nat} {l fr : Int} {tot rows : Option D} {kvs : Tab} {all : List D} (hl : p.D + l = p.L) (hM : TabAt S m kvs) (hI : kvI kvs) (hfr : fr = p.T + (3 * p.L + 3)) (hb1 : p.T ≤ 100) (hb2 : p.L ≤ 100) :
    ∀ (trs : List Tr) (J : Sto) (a b c x y z : Option D),
    (trs.all (fun r => rowOk p kvs fr r.1 r.2.1 r.2.2) = true → ∃ a' b' c' x' y' z' J', forL (.its all) (gTp 3 (gsCons (gN 8) (gsCons (gN 9) (gsCons (gN 10) gsNil)))) m_law_is_bar_b2 (trs.map trD) [some (.int p.T), some (.int p.D), some (.int l), some (.int p.g), tot, rows, some (.int fr), some (.loc m), a, b, c, x, y, z] (S ++ J) =
      .nx [some (.int p.T), some (.int p.D), some (.int l), some (.int p.g), tot, rows, some (.int fr), some (.loc m), a', b', c', x', y', z'] (S ++ J')) ∧
    (trs.all (fun r => rowOk p kvs fr r.1 r.2.1 r.2.2) = false → ∃ J', forL (.its all) (gTp 3 (gsCons (gN 8) (gsCons (gN 9) (gsCons (gN 10) gsNil)))) m_law_is_bar_b2 (trs.map trD) [some (.int p.T), some (.int p.D), some (.int l), some (.int p.g), tot, rows, some (.int fr), some (.loc m), a, b, c, x, y, z] (S ++ J) = .ret (.bl false) (S ++ J'))
  | [], J, a, b, c, x, y, z => ⟨fun _ => ⟨a, b, c, x, y, z, J, by rw [List.map_nil, forL_nil]; rfl⟩, fun h => (nomatch h)⟩
  | r :: trs, J, a, b, c, x, y, z => by
    have h := lb_row (tot := tot) (rows := rows) hl (tab_app hM J) hI hfr hb1 hb2 r x y z
    rw [List.map_cons, forL_cons, chk_its, show trD r = .tup [.int r.1, .int r.2.1, .int r.2.2] from rfl]
    cases hb : rowOk p kvs fr r.1 r.2.1 r.2.2 with
    | false =>
      obtain ⟨J', e⟩ := h.2 hb
      rw [nx_of3 e]
      refine ⟨fun h => ?_, fun _ => ⟨J ++ J', by rw [List.append_assoc]⟩⟩
      rw [List.all_cons, hb] at h
      cases h
    | true =>
      obtain ⟨x', y', z', J', e⟩ := h.1 hb
      rw [nx_of3 e]
      have ih := lb_rows (tot := tot) (rows := rows) (all := all) hl hM hI hfr hb1 hb2 trs (J ++ J') (some (.int r.1)) (some (.int r.2.1)) (some (.int r.2.2)) x' y' z'
      rw [← List.append_assoc] at ih
      rw [List.all_cons, hb, Bool.true_and]
      exact ih
section
variable {S : Sto} {t d l g fr : Int} {rows tot : D}
theorem lj_non (e1 : f_law_frames [.int t, .int d, .int l] S = .ok (.int fr) S) (e2 : f_law_bar_table [rows] S = .ok .non S) :
    m_law_is_bar [some (.int t), some (.int d), some (.int l), some (.int g), some tot, some rows, none, none, none, none, none, none, none, none] S = .ret (.bl false) S := by
  simp [m_law_is_bar, e1, e2]
theorem lj_tot {m : Nat} {S3 : Sto} (e1 : f_law_frames [.int t, .int d, .int l] S = .ok (.int fr) S) (e2 : f_law_bar_table [rows] S = .ok (.loc m) S3) (e3 : f_law_is_int [tot] S3 = .ok (.bl false) S3) :
    m_law_is_bar [some (.int t), some (.int d), some (.int l), some (.int g), some tot, some rows, none, none, none, none, none, none, none, none] S = .ret (.bl false) S3 := by
  simp [m_law_is_bar, e1, e2, e3]
theorem lj_over {m : Nat} {S3 : Sto} {T0 : Int} {xs : List D} {b : Bool} (e1 : f_law_frames [.int t, .int d, .int l] S = .ok (.int fr) S) (e2 : f_law_bar_table [.tup xs] S = .ok (.loc m) S3) (e3 : f_law_is_int [.int T0] S3 = .ok (.bl true) S3)
    (ho : t ≤ g) (hb : b = (decide (0 ≤ T0) && decide (xs.length = 0))) :
    m_law_is_bar [some (.int t), some (.int d), some (.int l), some (.int g), some (.int T0), some (.tup xs), none, none, none, none, none, none, none, none] S = .ret (.bl b) S3 := by
  subst hb
  have h : decide ((xs.length : Int) = 0) = decide (xs.length = 0) := decide_eq_decide.mpr (by omega)
  rw [← h]
  have hl : fLen [.tup xs] S3 = .ok (.int (xs.length : Int)) S3 := len_tup
  generalize (xs.length : Int) = L at *
  by_cases h0 : L = 0
  · by_cases h1 : 0 ≤ T0
    · simp [m_law_is_bar, e1, e2, e3, ho, hl, h0, h1]
    · simp [m_law_is_bar, e1, e2, e3, ho, hl, h0, h1]
  · simp [m_law_is_bar, e1, e2, e3, ho, hl, h0]
theorem lj_first {m : Nat} {S3 : Sto} {T0 : Int} {kvs : Tab} (e1 : f_law_frames [.int t, .int d, .int l] S = .ok (.int fr) S) (e2 : f_law_bar_table [rows] S = .ok (.loc m) S3) (e3 : f_law_is_int [.int T0] S3 = .ok (.bl true) S3)
    (ho : ¬ t ≤ g) (hM : S3[m]? = some (.dT kvs)) (h : ∀ v, tv kvs 0 (-1) = some v → ∃ i, v = .int i ∧ T0 < i) :
    m_law_is_bar [some (.int t), some (.int d), some (.int l), some (.int g), some (.int T0), some rows, none, none, none, none, none, none, none, none] S = .ret (.bl false) S3 := by
  have hin := in_tab (neg := true) (a := 0) (b := -1) (.inl hM)
  have hsu := sub_tab (a := 0) (b := -1) (.inl hM)
  cases hv : tv kvs 0 (-1) with
  | none => rw [hv] at hin hsu; simp [m_law_is_bar, e1, e2, e3, ho, hin, sizeLine_eq]
  | some v =>
    obtain ⟨i, rfl, hi⟩ := h v hv
    rw [hv] at hin hsu
    simp [m_law_is_bar, e1, e2, e3, ho, hin, hsu, hi, sizeLine_eq]
theorem lj_go {m : Nat} {S3 S4 : Sto} {T0 v : Int} {kvs : Tab} {xs : List D} {b : Bool} {x1 x2 x3 x4 x5 x6 : Option D} (e1 : f_law_frames [.int t, .int d, .int l] S = .ok (.int fr) S) (e2 : f_law_bar_table [.tup xs] S = .ok (.loc m) S3) (e3 : f_law_is_int [.int T0] S3 = .ok (.bl true) S3)
    (ho : ¬ t ≤ g) (hM : S3[m]? = some (.dT kvs)) (hv : tv kvs 0 (-1) = some (.int v)) (hi : v ≤ T0)
    (el : forL (.its xs) (gTp 3 (gsCons (gN 8) (gsCons (gN 9) (gsCons (gN 10) gsNil)))) m_law_is_bar_b2 xs [some (.int t), some (.int d), some (.int l), some (.int g), some (.int T0), some (.tup xs), some (.int fr), some (.loc m), none, none, none, none, none, none] S3 =
      if b = true then .nx [some (.int t), some (.int d), some (.int l), some (.int g), some (.int T0), some (.tup xs), some (.int fr), some (.loc m), x1, x2, x3, x4, x5, x6] S4 else .ret (.bl false) S4) :
    m_law_is_bar [some (.int t), some (.int d), some (.int l), some (.int g), some (.int T0), some (.tup xs), none, none, none, none, none, none, none, none] S = .ret (.bl b) S4 := by
  have hin := in_tab (neg := true) (a := 0) (b := -1) (.inl hM)
  have hsu := sub_tab (a := 0) (b := -1) (.inl hM)
  rw [hv] at hin hsu
  have hi' : ¬ T0 < v := by omega
  cases b with
  | true =>
    simp only [if_true] at el
    simp [m_law_is_bar, e1, e2, e3, ho, hin, hsu, hi', el, sizeLine_eq]
  | false =>
    simp only [Bool.false_eq_true, if_false] at el
    simp [m_law_is_bar, e1, e2, e3, ho, hin, hsu, hi', el, sizeLine_eq]
end
/-- what may be asked of the judges: rows are plain, so is the total -/
structure Ask (rows tot : D) : Prop where
  plR : pl rows = true
  plT : pl tot = true
  each : ∀ xs, rows = .tup xs → xs.length ≤ 100000 ∧ ∀ x ∈ xs, RwD x
theorem trs_ok {xs : List D} {kvs : Tab} (h : barT xs [] = some kvs) : ∃ trs : List Tr, xs = trs.map trD ∧ kvs = trs.map trK ∧ kvI kvs ∧ ∀ r ∈ trs, tv kvs r.1 r.2.1 = some (.int r.2.2) := by
  obtain ⟨trs, h1, h2, h3⟩ := barT_some xs [] kvs (by simp) h
  rw [List.nil_append] at h2
  refine ⟨trs, h1, h2, fun e he => ?_, fun r hr => ?_⟩
  · rw [h2] at he
    obtain ⟨r, _, rfl⟩ := List.mem_map.mp he
    exact ⟨_, rfl⟩
  · refine val_mem h3 ?_
    rw [h2]
    exact List.mem_map.mpr ⟨r, hr, rfl⟩
/-- what both judges say -/
noncomputable def JA (p : Par) (rows tot : D) : Bool := match rows, tot with
  | .tup xs, .int T0 => match barT xs [] with
    | some kvs => if p.over (-1) then decide (0 ≤ T0) && decide (kvs.length = 0) else match tv kvs 0 (-1) with
      | some (.int v) => decide (v ≤ T0) && kvs.all fun e => match e with
        | ([.inl f, .inl s], .int num) => rowOk p kvs (p.T + (3 * p.L + 3)) f s num
        | _ => false
      | _ => false
    | none => false
  | _, _ => false
theorem all_trs {p : Par} {kvs : Tab} {fr : Int} (trs : List Tr) : ((trs.map trK).all fun e => match e with
    | ([.inl f, .inl s], .int num) => rowOk p kvs fr f s num
    | _ => false) = trs.all fun r => rowOk p kvs fr r.1 r.2.1 r.2.2 := by
  rw [List.all_map]; rfl
theorem judge_eq {p : Par} {S : Sto} {l : Int} {rows tot : D} (hl : p.D + l = p.L) (ha : Ask rows tot) (hb1 : p.T ≤ 100) (hb2 : p.L ≤ 100) :
    fjudge_bar [.int p.T, .int p.D, .int l, .int p.g, tot, rows] S = .ok (.bl (JA p rows tot)) S := by
  have e1 := init_eq p.T p.D l p.g S
  obtain ⟨S2, hS2⟩ : ∃ S2, S2 = S ++ [sprO p.T p.D l p.g] := ⟨_, rfl⟩
  rw [← hS2] at e1
  have hsp : S2[S.length]? = some (sprO p.T p.D l p.g) := by rw [hS2]; simp
  have er : ([D.int p.T, D.int p.D, D.int l, D.int p.g, tot, rows].map some ++ List.replicate (10 - 6) none : Sd) = [some (.int p.T), some (.int p.D), some (.int l), some (.int p.g), some tot, some rows, none, none, none, none] := rfl
  have fin : ∀ {b : Bool} {S3 : Sto} (J : Sto), S3 = S ++ J → mjudge_bar [some (.int p.T), some (.int p.D), some (.int l), some (.int p.g), some tot, some rows, none, none, none, none] S = .ret (.bl b) S3 → b = JA p rows tot → fjudge_bar [.int p.T, .int p.D, .int l, .int p.g, tot, rows] S = .ok (.bl (JA p rows tot)) S := fun {b S3} J hJ e hb => by
    unfold fjudge_bar runB
    rw [er, e, hJ, hb]
    exact trim_pre (by simp)
  by_cases hr : ∃ xs, rows = .tup xs
  · obtain ⟨xs, rfl⟩ := hr
    obtain ⟨hz, hx⟩ := ha.each xs rfl
    have e2 := pbt_tup (S := S2) hx hz
    cases hb : barT xs [] with
    | none => exact fin _ hS2 (jb_non e1 (e2.2 hb)) (by cases tot <;> simp [JA, hb])
    | some kvs =>
      have e2 := e2.1 kvs hb
      obtain ⟨trs, t1, t2, t3, t4⟩ := trs_ok hb
      obtain ⟨S3, hS3⟩ : ∃ S3, S3 = S2 ++ [O.dT kvs] := ⟨_, rfl⟩
      rw [← hS3] at e2
      have hS3' : S3 = S ++ ([sprO p.T p.D l p.g] ++ [O.dT kvs]) := by rw [hS3, hS2, List.append_assoc]
      have hM : S3[S2.length]? = some (.dT kvs) := by rw [hS3]; exact get_last
      have hsp3 : S3[S.length]? = some (sprO p.T p.D l p.g) := by rw [hS3]; exact app_get hsp _
      have e3 := pisint ha.plT S3
      by_cases ht : ∃ T0, tot = .int T0
      · obtain ⟨T0, rfl⟩ := ht
        have hc := met_of (F := fSpread__is_over) hsp3
        have e4 := over_eq hsp3 (-1)
        by_cases ho : p.over (-1)
        · rw [decide_eq_true (show p.T - 1 ≤ -1 + p.g from ho)] at e4
          exact fin _ hS3' (jb_over e1 e2 e3 hc e4 hM rfl) (by simp [JA, hb, ho])
        · rw [decide_eq_false (show ¬ p.T - 1 ≤ -1 + p.g from ho)] at e4
          by_cases hv : ∃ v, tv kvs 0 (-1) = some (.int v) ∧ v ≤ T0
          · obtain ⟨v, hv, hi⟩ := hv
            have hm := lt_of_some hM
            have hF : (S3.set S2.length (O.fT kvs))[S2.length]? = some (.fT kvs) := by rw [List.getElem?_set_self hm]
            have hspF : (S3.set S2.length (O.fT kvs))[S.length]? = some (sprO p.T p.D l p.g) := by
              rw [List.getElem?_set_ne (by have := lt_of_some hsp; omega)]; exact hsp3
            have hall : trs.map kD = kvs.map fun p => .tup (p.1.map keyD) := by rw [t2, List.map_map]; rfl
            obtain ⟨x, y, el⟩ := jb_loop (all := trs.map kD) (t := some (.int p.T)) (d := some (.int p.D)) (l := some (.int l)) (g := some (.int p.g)) (tot := some (.int T0)) (rows := some (.tup xs)) (sp := .loc S.length) (ok := fun r => rowOk p kvs (p.T + (3 * p.L + 3)) r.1 r.2.1 r.2.2) hF trs none none
              (fun r hr => is_closed_eq hl hspF (.inr hF) t3 rfl (t4 r hr) hb1 hb2)
            refine fin _ hS3' (jb_go e1 e2 e3 hc e4 hM hv hi hall el) ?_
            unfold JA
            simp only [hb]
            rw [if_neg ho, hv]
            simp only
            rw [decide_eq_true hi, Bool.true_and]
            conv => rhs; arg 1; rw [t2]
            rw [all_trs]
          · refine fin _ hS3' (jb_first e1 e2 e3 hc e4 hM fun v hv' => ?_) ?_
            · obtain ⟨i, rfl⟩ := kvI_tv t3 hv'
              refine ⟨i, rfl, ?_⟩
              rcases Int.lt_or_le T0 i with h | h
              · exact h
              · exact absurd ⟨i, hv', h⟩ hv
            · unfold JA
              simp only [hb]
              rw [if_neg ho]
              cases hv' : tv kvs 0 (-1) with
              | none => rfl
              | some v =>
                obtain ⟨i, rfl⟩ := kvI_tv t3 hv'
                have : ¬ i ≤ T0 := fun h => hv ⟨i, hv', h⟩
                simp [this]
      · have hi : isI tot = false := by
          cases tot with
          | int i => exact absurd ⟨i, rfl⟩ ht
          | _ => rfl
        rw [hi] at e3
        refine fin _ hS3' (jb_tot e1 e2 e3) ?_
        cases tot with
        | int i => exact absurd ⟨i, rfl⟩ ht
        | _ => rfl
  · refine fin _ hS2 (jb_non e1 (pbt_non ha.plR (fun xs z => hr ⟨xs, z⟩) S2)) ?_
    cases rows with
    | tup xs => exact absurd ⟨xs, rfl⟩ hr
    | _ => cases tot <;> rfl
theorem is_bar_eq {p : Par} {S : Sto} {l : Int} {rows tot : D} (hl : p.D + l = p.L) (ha : Ask rows tot) (hb1 : p.T ≤ 100) (hb2 : p.L ≤ 100) :
    f_law_is_bar [.int p.T, .int p.D, .int l, .int p.g, tot, rows] S = .ok (.bl (JA p rows tot)) S := by
  have e1 := lframes_eq p.T p.D l S
  have hfr : p.T + (3 * (p.D + l) + 3) = p.T + (3 * p.L + 3) := by rw [hl]
  rw [hfr] at e1
  have er : ([D.int p.T, D.int p.D, D.int l, D.int p.g, tot, rows].map some ++ List.replicate (14 - 6) none : Sd) = [some (.int p.T), some (.int p.D), some (.int l), some (.int p.g), some tot, some rows, none, none, none, none, none, none, none, none] := rfl
  have fin : ∀ {b : Bool} {S3 : Sto} (J : Sto), S3 = S ++ J → m_law_is_bar [some (.int p.T), some (.int p.D), some (.int l), some (.int p.g), some tot, some rows, none, none, none, none, none, none, none, none] S = .ret (.bl b) S3 → b = JA p rows tot → f_law_is_bar [.int p.T, .int p.D, .int l, .int p.g, tot, rows] S = .ok (.bl (JA p rows tot)) S := fun {b S3} J hJ e hb => by
    unfold f_law_is_bar runB
    rw [er, e, hJ, hb]
    exact trim_pre (by simp)
  by_cases hr : ∃ xs, rows = .tup xs
  · obtain ⟨xs, rfl⟩ := hr
    obtain ⟨hz, hx⟩ := ha.each xs rfl
    have e2 := lbt_tup (S := S) hx hz
    cases hb : barT xs [] with
    | none => exact fin [] (by simp) (lj_non e1 (e2.2 hb)) (by cases tot <;> simp [JA, hb])
    | some kvs =>
      have e2 := e2.1 kvs hb
      obtain ⟨trs, t1, t2, t3, t4⟩ := trs_ok hb
      have hM : (S ++ [O.dT kvs])[S.length]? = some (.dT kvs) := get_last
      have e3 := lisint ha.plT (S ++ [O.dT kvs])
      by_cases ht : ∃ T0, tot = .int T0
      · obtain ⟨T0, rfl⟩ := ht
        by_cases ho : p.over (-1)
        · have ho' : p.T ≤ p.g := by unfold Par.over at ho; omega
          have hxl : xs.length = kvs.length := by rw [t1, t2]; simp
          exact fin _ rfl (lj_over e1 e2 e3 ho' rfl) (by simp [JA, hb, ho, hxl])
        · have ho' : ¬ p.T ≤ p.g := by unfold Par.over at ho; omega
          by_cases hv : ∃ v, tv kvs 0 (-1) = some (.int v) ∧ v ≤ T0
          · obtain ⟨v, hv, hi⟩ := hv
            have hj : JA p (.tup xs) (.int T0) = trs.all fun r => rowOk p kvs (p.T + (3 * p.L + 3)) r.1 r.2.1 r.2.2 := by
              unfold JA
              simp only [hb]
              rw [if_neg ho, hv]
              simp only
              rw [decide_eq_true hi, Bool.true_and]
              conv => lhs; arg 1; rw [t2]
              rw [all_trs]
            have h := lb_rows (tot := some (.int T0)) (rows := some (.tup xs)) (all := xs) (l := l) hl (.inl hM) t3 rfl hb1 hb2 trs [] none none none none none none
            rw [List.append_nil, ← t1] at h
            cases hb2' : trs.all fun r => rowOk p kvs (p.T + (3 * p.L + 3)) r.1 r.2.1 r.2.2 with
            | true =>
              obtain ⟨a', b', c', x', y', z', J', e⟩ := h.1 hb2'
              refine fin ([O.dT kvs] ++ J') (by rw [← List.append_assoc]) (lj_go (b := true) e1 e2 e3 ho' hM hv hi e) ?_
              rw [hj, hb2']
            | false =>
              obtain ⟨J', e⟩ := h.2 hb2'
              refine fin ([O.dT kvs] ++ J') (by rw [← List.append_assoc]) (lj_go (b := false) (x1 := none) (x2 := none) (x3 := none) (x4 := none) (x5 := none) (x6 := none) e1 e2 e3 ho' hM hv hi e) ?_
              rw [hj, hb2']
          · refine fin _ rfl (lj_first e1 e2 e3 ho' hM fun v hv' => ?_) ?_
            · obtain ⟨i, rfl⟩ := kvI_tv t3 hv'
              refine ⟨i, rfl, ?_⟩
              rcases Int.lt_or_le T0 i with h | h
              · exact h
              · exact absurd ⟨i, hv', h⟩ hv
            · unfold JA
              simp only [hb]
              rw [if_neg ho]
              cases hv' : tv kvs 0 (-1) with
              | none => rfl
              | some v =>
                obtain ⟨i, rfl⟩ := kvI_tv t3 hv'
                have : ¬ i ≤ T0 := fun h => hv ⟨i, hv', h⟩
                simp [this]
      · have hi : isI tot = false := by
          cases tot with
          | int i => exact absurd ⟨i, rfl⟩ ht
          | _ => rfl
        rw [hi] at e3
        refine fin _ rfl (lj_tot e1 e2 e3) ?_
        cases tot with
        | int i => exact absurd ⟨i, rfl⟩ ht
        | _ => rfl
  · refine fin [] (by simp) (lj_non e1 (lbt_non ha.plR (fun xs z => hr ⟨xs, z⟩) S)) ?_
    cases rows with
    | tup xs => exact absurd ⟨xs, rfl⟩ hr
    | _ => cases tot <;> rfl
theorem judged_eq {p : Par} {S : Sto} {l : Int} {rows tot : D} (hl : p.D + l = p.L) (ha : Ask rows tot) (hb1 : p.T ≤ 100) (hb2 : p.L ≤ 100) :
    f_law_is_judged [.int p.T, .int p.D, .int l, .int p.g, tot, rows] S = .ok (.bl true) S := by
  have e1 := judge_eq (S := S) hl ha hb1 hb2
  have e2 := is_bar_eq (S := S) hl ha hb1 hb2
  generalize JA p rows tot = b at *
  simp [f_law_is_judged, runB, m_law_is_judged, e1, e2, kb, trim_self]
end G
set_option linter.all false
set_option maxRecDepth 100000
set_option maxHeartbeats 4000000
namespace G
open PySem PySem.Spec PyProof.Rows L2 FL
variable [KMap]
/-! ### the pairs that can come -/
theorem set_mid1 {S0 J : Sto} {a o o' : O} : (S0 ++ a :: o :: J).set (S0.length + 1) o' = S0 ++ a :: o' :: J := by
  rw [List.set_append_right _ _ (by omega)]
  have : S0.length + 1 - S0.length = 1 := by omega
  rw [this]; rfl
theorem get_mid1 {S0 J : Sto} {a o : O} : (S0 ++ a :: o :: J)[S0.length + 1]? = some o := by
  rw [List.getElem?_append_right (by omega)]
  have : S0.length + 1 - S0.length = 1 := by omega
  rw [this]; rfl
def mtD (x : Int × Int) : List Key × D := (kp x, .bl true)
theorem re_b1 {S : Sto} {sp : D} {me pr gn : Option D} {q : Nat} {f s t d l g : Int} {ls : List D} {n : Nat} (hsp : sp = .loc n) (hS : S[n]? = some (sprO t d l g)) (hq : S[q]? = some (.lst ls)) (hz : ls.length < 16777216) :
    mreachable_b1 [some sp, me, some (.loc q), pr, gn, some (.int f), some (.int s)] S =
      .nx [some sp, me, some (.loc q), pr, gn, some (.int f), some (.int s)] (if t - 1 ≤ s + g then S else S.set q (.lst (ls ++ [.tup [.int f, .int s]]))) := by
  subst hsp
  have e := over_eq hS s
  have hc := met_of (F := fSpread__is_over) hS
  by_cases h : t - 1 ≤ s + g
  · simp [mreachable_b1, hc, e, h]
  · simp [mreachable_b1, hc, e, h, hq, hz, sizeLine_eq]
/-- what is pushed -/
def Par.push (p : Par) (f : Int) (ws : List (Int × Int)) : List (Int × Int) := (ws.filter fun w => decide (¬ p.over w.2)).map fun w => (f + 1, w.2)
theorem re_loop {p : Par} {S J : Sto} {l f : Int} {n : Nat} {me pr : Option D} {a : O} {all : List D} (hS : S[n]? = some (sprO p.T p.D l p.g)) :
    ∀ (ws : List (Int × Int)) (ls : List (Int × Int)) (x y z : Option D), ls.length + ws.length ≤ 10000000 →
    ∃ x' y' z', forL (.at_ (S.length + 2 + J.length) (.lst all) all) (gTp 3 (gsCons (gN 4) (gsCons (gN 5) (gsCons (gN 6) gsNil)))) mreachable_b1 (ws.map (flD f)) [some (.loc n), me, some (.loc (S.length + 1)), pr, x, y, z] (S ++ a :: O.lst (ls.map prD) :: (J ++ [O.lst all])) =
      .nx [some (.loc n), me, some (.loc (S.length + 1)), pr, x', y', z'] (S ++ a :: O.lst ((ls ++ p.push f ws).map prD) :: (J ++ [O.lst all]))
  | [], ls, x, y, z, _ => by
    have hQ : (S ++ a :: O.lst (ls.map prD) :: (J ++ [O.lst all]))[S.length + 2 + J.length]? = some (.lst all) := by
      rw [List.getElem?_append_right (by omega)]
      have : S.length + 2 + J.length - S.length = J.length + 2 := by omega
      rw [this, List.getElem?_cons_succ, List.getElem?_cons_succ]
      simp
    exact ⟨x, y, z, by rw [List.map_nil, forL_nil, chk_lst hQ]; simp [Par.push]⟩
  | w :: ws, ls, x, y, z, hz => by
    rw [List.length_cons] at hz
    have hQ : (S ++ a :: O.lst (ls.map prD) :: (J ++ [O.lst all]))[S.length + 2 + J.length]? = some (.lst all) := by
      rw [List.getElem?_append_right (by omega)]
      have : S.length + 2 + J.length - S.length = J.length + 2 := by omega
      rw [this, List.getElem?_cons_succ, List.getElem?_cons_succ]
      simp
    have hS' := app_get hS (a :: O.lst (ls.map prD) :: (J ++ [O.lst all]))
    have e := re_b1 (me := me) (pr := pr) (gn := some (.int w.1)) (f := f + 1) (s := w.2) rfl hS' (get_mid1 (S0 := S) (a := a) (o := .lst (ls.map prD)) (J := J ++ [O.lst all])) (by rw [List.length_map]; omega)
    rw [List.map_cons, forL_cons, chk_lst hQ, show flD f w = .tup [.int w.1, .int (f + 1), .int w.2] from rfl, nx_of3 e]
    by_cases ho : p.over w.2
    · rw [if_pos (show p.T - 1 ≤ w.2 + p.g from ho)]
      have hp : p.push f (w :: ws) = p.push f ws := by simp [Par.push, ho]
      rw [hp]
      exact re_loop hS ws ls _ _ _ (by omega)
    · rw [if_neg (show ¬ p.T - 1 ≤ w.2 + p.g from ho), set_mid1]
      have hp : p.push f (w :: ws) = (f + 1, w.2) :: p.push f ws := by simp [Par.push, ho]
      rw [hp]
      have el : ls.map prD ++ [.tup [.int (f + 1), .int w.2]] = (ls ++ [(f + 1, w.2)]).map prD := by simp [prD]
      rw [el]
      obtain ⟨x', y', z', e2⟩ := re_loop (J := J) (me := me) (pr := pr) (a := a) (all := all) hS ws (ls ++ [(f + 1, w.2)]) (some (.int w.1)) (some (.int (f + 1))) (some (.int w.2)) (by simp; omega)
      exact ⟨x', y', z', by rw [List.append_assoc] at e2; exact e2⟩
section
variable {S J : Sto} {n : Nat} {t d l g fr f s : Int} {ls : List (Int × Int)} {kvs : Tab} {x y z w : Option D}
theorem pop_last (ls : List (Int × Int)) (q : Int × Int) : ((ls ++ [q]).map prD)[((ls ++ [q]).map prD).length - 1]? = some (prD q) ∧ ((ls ++ [q]).map prD).dropLast = ls.map prD := by
  rw [List.map_append]
  simp
theorem re_pop (hS : S[n]? = some (sprO t d l g)) : fPop (.loc (S.length + 1)) [] (S ++ O.dT kvs :: O.lst ((ls ++ [(f, s)]).map prD) :: J) = .ok (.tup [.int f, .int s]) (S ++ O.dT kvs :: O.lst (ls.map prD) :: J) := by
  have hg := get_mid1 (S0 := S) (a := O.dT kvs) (o := .lst ((ls ++ [(f, s)]).map prD)) (J := J)
  obtain ⟨h1, h2⟩ := pop_last ls (f, s)
  generalize (ls ++ [(f, s)]).map prD = L at *
  simp only [fPop, hg, h1, h2, set_mid1]
  rfl
theorem re_old (hS : S[n]? = some (sprO t d l g)) (ht : (tv kvs f s).isSome = true) :
    mreachable_b2 [some (.loc n), some (.loc S.length), some (.loc (S.length + 1)), x, y, z, w] (S ++ O.dT kvs :: O.lst ((ls ++ [(f, s)]).map prD) :: J) =
      .nx [some (.loc n), some (.loc S.length), some (.loc (S.length + 1)), some (.tup [.int f, .int s]), y, z, w] (S ++ O.dT kvs :: O.lst (ls.map prD) :: J) := by
  have hp := re_pop (f := f) (s := s) (ls := ls) (kvs := kvs) (J := J) hS
  have hg := get_mid1 (S0 := S) (a := O.dT kvs) (o := .lst ((ls ++ [(f, s)]).map prD)) (J := J)
  have hm : (S ++ O.dT kvs :: O.lst (ls.map prD) :: J)[S.length]? = some (.dT kvs) := get_mid
  have hin := in_tab (neg := true) (a := f) (b := s) (.inl hm)
  rw [ht] at hin
  generalize (ls ++ [(f, s)]).map prD = L at *
  generalize S ++ O.dT kvs :: O.lst L :: J = S1 at *
  generalize S ++ O.dT kvs :: O.lst (ls.map prD) :: J = S2 at *
  have ht : tyD "list" S1 (.loc (S.length + 1)) = true := by simp only [tyD, hg]; rfl
  simp only [tyD] at ht
  unfold mreachable_b2
  simp only [mSeq, mSet, mBM, mVar, List.getElem?_cons_succ, List.getElem?_cons_zero, R.bind_ok, bmK, tyD, ht, if_true, aNil, hp, R.fl_ok, setK, Fl.sq_nx, mIfS, mAnd, mTest, mOp, opK, List.set_cons_succ, List.set_cons_zero, hin, asB, andK]
  rfl
end
end G
set_option linter.all false
set_option maxRecDepth 100000
set_option maxHeartbeats 4000000
namespace G
open PySem PySem.Spec PyProof.Rows L2 FL
variable [KMap]
theorem re_new_m {S1 S2 S3 S4 S5 : Sto} {n m q q3 : Nat} {fr f s : Int} {kvs : Tab} {all : List D} {x y z w x' y' z' : Option D} {L : List D} (hg : S1[q]? = some (.lst L)) (hp : fPop (.loc q) [] S1 = .ok (.tup [.int f, .int s]) S2) (hin : fInN true (.tup [.int f, .int s]) (.loc m) S2 = .ok (.bl true) S2)
    (hfl : fldD [(0, 4)] (.loc n) S2 = some (.int fr)) (hf : f < fr) (hm : S2[m]? = some (.dT kvs)) (hz : kvs.length < 16777216) (h3 : S2.set m (.dT (putD kvs [.inl f, .inl s] (.bl true))) = S3)
    (e1 : ffollowers [.loc n, .int f, .int s] S3 = .ok (.loc q3) S4) (hk : S4[q3]? = some (.lst all))
    (e2 : forL (.at_ q3 (.lst all) all) (gTp 3 (gsCons (gN 4) (gsCons (gN 5) (gsCons (gN 6) gsNil)))) mreachable_b1 all [some (.loc n), some (.loc m), some (.loc q), some (.tup [.int f, .int s]), y, z, w] S4 = .nx [some (.loc n), some (.loc m), some (.loc q), some (.tup [.int f, .int s]), x', y', z'] S5) :
    mreachable_b2 [some (.loc n), some (.loc m), some (.loc q), x, y, z, w] S1 = .nx [some (.loc n), some (.loc m), some (.loc q), some (.tup [.int f, .int s]), x', y', z'] S5 := by
  have hs : fSet_ (.loc m) (.tup [.int f, .int s]) (.bl true) S2 = some S3 := by
    simp only [fSet_, hm, keyT, keysK_two, sizeLine_eq]
    rw [if_pos hz, h3]
  have h0 : atI [D.int f, D.int s] 0 = some (.int f) := rfl
  have h1 : atI [D.int f, D.int s] 1 = some (.int s) := rfl
  have ht : tyD "list" S1 (.loc q) = true := by simp only [tyD, hg]; rfl
  have ip := it_lst hk
  unfold mreachable_b2
  simp only [mSeq, mSet, mBM, mVar, List.getElem?_cons_succ, List.getElem?_cons_zero, R.bind_ok, bmK, ht, if_true, aNil, hp, R.fl_ok, setK, Fl.sq_nx, mIfS, mAnd, mTest, mOp, opK, List.set_cons_succ, List.set_cons_zero, hin, asB, andK, brK_true, sub_tup, h0, h1, okO, mC, mFld, fFld, hfl, fInt20, decide_eq_true hf, ifK, mAsg, asgK, gSb, gSbK, gSbK2, ofO, hs, Fl.sq_nx, mFor, mIt, mL, aCons, consK, consK2, e1, ip, forK, Src.items, e2]
/-- all pairs of small ints -/
def vps : List (Int × Int) := (rgI 0 400).flatMap fun f => (rgI (-1) 400).map fun s => (f, s)
def nu (ps : List (Int × Int)) : Nat := (vps.filter fun x => decide (x ∉ ps)).length
theorem mem_vps {f s : Int} : (f, s) ∈ vps ↔ 0 ≤ f ∧ f < 400 ∧ -1 ≤ s ∧ s < 399 := by
  unfold vps
  rw [List.mem_flatMap]
  constructor
  · rintro ⟨a, ha, h⟩
    obtain ⟨b, hb, e⟩ := List.mem_map.mp h
    cases e
    have := mem_rgI.mp ha
    have := mem_rgI.mp hb
    omega
  · intro h
    exact ⟨f, mem_rgI.mpr (by omega), List.mem_map.mpr ⟨s, mem_rgI.mpr (by omega), rfl⟩⟩
theorem nu_le (ps : List (Int × Int)) : nu ps ≤ 160000 := by
  refine Nat.le_trans (List.length_filter_le _ _) ?_
  have : vps.length ≤ 400 * (rgI 0 400).length := by
    unfold vps
    have key : ∀ l : List Int, (l.flatMap fun f => (rgI (-1) 400).map fun s => (f, s)).length ≤ 400 * l.length := by
      intro l
      induction l with
      | nil => simp
      | cons a r ih =>
        rw [List.flatMap_cons, List.length_append, List.length_map, List.length_cons]
        simp only [rgI, List.length_map, List.length_range] at ih ⊢
        omega
    exact key _
  simp only [rgI, List.length_map, List.length_range] at this
  omega
theorem nu_add {ps : List (Int × Int)} {x : Int × Int} (h : x ∈ vps) (hn : x ∉ ps) : nu (ps ++ [x]) < nu ps := by
  unfold nu
  have e : (vps.filter fun y => decide (y ∉ ps ++ [x])) = (vps.filter fun y => decide (y ∉ ps)).filter fun y => decide (y ≠ x) := by
    rw [List.filter_filter]
    refine List.filter_congr fun y _ => ?_
    rw [← Bool.decide_and]
    refine decide_eq_decide.mpr ?_
    simp [and_comm]
  rw [e]
  refine List.length_filter_lt_length_iff_exists.mpr ⟨x, List.mem_filter.mpr ⟨h, decide_eq_true hn⟩, by simp⟩
/-- what holds ahead of each turn -/
structure Re (p : Par) (ps ls : List (Int × Int)) : Prop where
  nd : ps.Nodup
  vp : ∀ x ∈ ps, Vd p x.1 x.2
  vl : ∀ x ∈ ls, Vd p x.1 x.2
  cl : ∀ x ∈ ps, ∀ w ∈ p.ways x.1 x.2, ¬ p.over w.2 → (x.1 + 1, w.2) ∈ ps ∨ (x.1 + 1, w.2) ∈ ls
  st : ¬ p.over (-1) → (0, -1) ∈ ps ∨ (0, -1) ∈ ls
theorem vd_way {p : Par} {f s : Int} (h : Vd p f s) {w : Int × Int} (hw : w ∈ p.ways f s) (ho : ¬ p.over w.2) : Vd p (f + 1) w.2 := by
  obtain ⟨h1, h2, h3, h4⟩ := h
  have hDL := p.hDL
  rcases mem_ways hw with ⟨e1, _, e2⟩ | ⟨e1, e2, _⟩
  · exact ⟨by omega, ho, by omega, by omega⟩
  · unfold Par.lo at e1
    exact ⟨by omega, ho, by omega, by omega⟩
theorem Re.old {p : Par} {ps ls : List (Int × Int)} {x : Int × Int} (h : Re p ps (ls ++ [x])) (hx : x ∈ ps) : Re p ps ls := by
  refine ⟨h.nd, h.vp, fun y hy => h.vl y (by simp [hy]), fun y hy w hw ho => ?_, fun ho => ?_⟩
  · rcases h.cl y hy w hw ho with z | z
    · exact .inl z
    · rcases List.mem_append.mp z with z | z
      · exact .inr z
      · rw [List.mem_singleton.mp z]; exact .inl hx
  · rcases h.st ho with z | z
    · exact .inl z
    · rcases List.mem_append.mp z with z | z
      · exact .inr z
      · rw [List.mem_singleton.mp z]; exact .inl hx
theorem Re.new {p : Par} {ps ls : List (Int × Int)} {x : Int × Int} (h : Re p ps (ls ++ [x])) (hx : x ∉ ps) : Re p (ps ++ [x]) (ls ++ p.push x.1 (p.ways x.1 x.2)) := by
  have hv := h.vl x (by simp)
  refine ⟨?_, fun y hy => ?_, fun y hy => ?_, fun y hy w hw ho => ?_, fun ho => ?_⟩
  · rw [List.nodup_append]
    refine ⟨h.nd, by simp, fun a ha b hb => ?_⟩
    rw [List.mem_singleton.mp hb]
    rintro rfl
    exact hx ha
  · rcases List.mem_append.mp hy with hy | hy
    · exact h.vp y hy
    · rw [List.mem_singleton.mp hy]; exact hv
  · rcases List.mem_append.mp hy with hy | hy
    · exact h.vl y (by simp [hy])
    · obtain ⟨w, hw, rfl⟩ := List.mem_map.mp hy
      have hw := List.mem_filter.mp hw
      exact vd_way (f := x.1) (s := x.2) (w := w) hv hw.1 (of_decide_eq_true hw.2)
  · rcases List.mem_append.mp hy with hy | hy
    · rcases h.cl y hy w hw ho with z | z
      · exact .inl (List.mem_append_left _ z)
      · rcases List.mem_append.mp z with z | z
        · exact .inr (List.mem_append_left _ z)
        · rw [List.mem_singleton.mp z]; exact .inl (by simp)
    · rw [List.mem_singleton.mp hy] at hw ⊢
      exact .inr (List.mem_append_right _ (List.mem_map.mpr ⟨w, List.mem_filter.mpr ⟨hw, decide_eq_true ho⟩, rfl⟩))
  · rcases h.st ho with z | z
    · exact .inl (List.mem_append_left _ z)
    · rcases List.mem_append.mp z with z | z
      · exact .inr (List.mem_append_left _ z)
      · rw [List.mem_singleton.mp z]; exact .inl (by simp)
/-- at the end: all of them -/
theorem Re.all {p : Par} {ps : List (Int × Int)} (h : Re p ps []) {f s : Int} (hv : Vd p f s) : (f, s) ∈ ps := by
  have hD := p.hD
  have hL := p.hL
  have hg := p.hg
  have key1 : ∀ (k : Nat), ¬ p.over ((k : Int) - 1) → ((k : Int), (k : Int) - 1) ∈ ps := by
    intro k
    induction k with
    | zero =>
      intro ho
      rcases h.st ho with z | z
      · exact z
      · cases z
    | succ k ih =>
      intro ho
      have ho0 : ¬ p.over ((k : Int) - 1) := by unfold Par.over at ho ⊢; omega
      have hm := ih ho0
      have hw : (p.gain k ((k : Int) - 1), (k : Int)) ∈ p.ways k ((k : Int) - 1) := by
        unfold Par.ways
        refine List.mem_append_right _ (List.mem_map.mpr ⟨k, (mem_news p).mpr ⟨?_, by omega⟩, rfl⟩)
        unfold Par.lo
        omega
      have ho2 : ¬ p.over (k : Int) := by unfold Par.over at ho ⊢; omega
      rcases h.cl _ hm _ hw ho2 with z | z
      · have e : (((k + 1 : Nat) : Int), ((k + 1 : Nat) : Int) - 1) = ((k : Int) + 1, (k : Int)) := Prod.ext (by show ((k + 1 : Nat) : Int) = _; omega) (by show ((k + 1 : Nat) : Int) - 1 = _; omega)
        rw [e]; exact z
      · cases z
  have key2 : ∀ (j : Nat), (j : Int) ≤ p.L → (s + 1 + (j : Int), s) ∈ ps := by
    intro j
    induction j with
    | zero =>
      intro _
      have := key1 (s + 1).toNat (by
        have e : (((s + 1).toNat : Nat) : Int) - 1 = s := by have := hv.1; omega
        rw [e]; exact hv.2.1)
      have e : ((((s + 1).toNat : Nat) : Int), (((s + 1).toNat : Nat) : Int) - 1) = (s + 1 + ((0 : Nat) : Int), s) := by
        have := hv.1
        exact Prod.ext (by show (((s + 1).toNat : Nat) : Int) = _; omega) (by show (((s + 1).toNat : Nat) : Int) - 1 = _; omega)
      rw [← e]; exact this
    | succ j ih =>
      intro hj
      have hm := ih (by omega)
      have hw : ((0 : Int), s) ∈ p.ways (s + 1 + (j : Int)) s := by
        unfold Par.ways
        rw [if_pos (by omega)]
        simp
      rcases h.cl _ hm _ hw hv.2.1 with z | z
      · have e : (s + 1 + ((j + 1 : Nat) : Int), s) = (s + 1 + (j : Int) + 1, s) := Prod.ext (by show s + 1 + ((j + 1 : Nat) : Int) = _; omega) rfl
        rw [e]; exact z
      · cases z
  have := key2 (f - s - 1).toNat (by have := hv.2.2; omega)
  have e : (s + 1 + (((f - s - 1).toNat : Nat) : Int), s) = (f, s) := Prod.ext (by show s + 1 + (((f - s - 1).toNat : Nat) : Int) = f; have := hv.2.2; omega) rfl
  rw [← e]; exact this
end G
set_option linter.all false
set_option maxRecDepth 100000
set_option maxHeartbeats 4000000
namespace G
open PySem PySem.Spec PyProof.Rows L2 FL
variable [KMap]
theorem mt_keys (ps : List (Int × Int)) : (ps.map mtD).map (·.1) = ps.map kp := by rw [List.map_map]; rfl
theorem mt_tv {ps : List (Int × Int)} (f s : Int) : (tv (ps.map mtD) f s).isSome = decide ((f, s) ∈ ps) := by
  unfold tv valD
  rw [Option.isSome_map]
  have h1 := any_keys (mt_keys ps) (f, s)
  have h2 : ((ps.map mtD).find? fun kv => decide (kv.1 = [Sum.inl f, Sum.inl s])).isSome = (ps.map mtD).any fun kv => decide (kv.1 = kp (f, s)) := by
    rw [Bool.eq_iff_iff, List.find?_isSome, List.any_eq_true]; rfl
  rw [h2, Bool.eq_iff_iff, h1, decide_eq_true_iff]
noncomputable abbrev reT : Mt := mTest (mOp fGt (mL fLen (aCons (mVar 2) aNil)) (mC (.int 0)))
theorem re_t {S : Sto} {q : Nat} {a b c d e f : Option D} {L : List D} (hq : S[q]? = some (.lst L)) : reT [a, b, some (.loc q), c, d, e, f] S = .ok (decide (L ≠ [])) S := by
  have hl := len_lst hq
  have h : decide ((0 : Int) < (L.length : Int)) = decide (L ≠ []) := by
    refine decide_eq_decide.mpr ?_
    cases L with
    | nil => simp
    | cons x r => simp
  rw [← h]
  generalize (L.length : Int) = n at *
  simp [hl]
theorem re_while {p : Par} {S : Sto} {l : Int} {n : Nat} (hl : p.D + l = p.L) (hl0 : 0 ≤ l) (hS : S[n]? = some (sprO p.T p.D l p.g)) (hb1 : p.T ≤ 24) (hb2 : p.L ≤ 6) :
    ∀ (M : Nat) (ps ls : List (Int × Int)) (J : Sto) (x y z w : Option D), nu ps * 50 + ls.length ≤ M → nu ps + ps.length ≤ 200000 → M ≤ 9000000 → Re p ps ls →
    ∃ ps' J' x' y' z' w', whileF reT mreachable_b2 (M + 1) [some (.loc n), some (.loc S.length), some (.loc (S.length + 1)), x, y, z, w] (S ++ O.dT (ps.map mtD) :: O.lst (ls.map prD) :: J) =
      .nx [some (.loc n), some (.loc S.length), some (.loc (S.length + 1)), x', y', z', w'] (S ++ O.dT (ps'.map mtD) :: J') ∧ Re p ps' [] := by
  have hDL := p.hDL
  have hDD := p.hD
  have hgg := p.hg
  intro M
  induction M with
  | zero =>
    intro ps ls J x y z w h1 h2 h3 hr
    have hls : ls = [] := List.length_eq_zero_iff.mp (by omega)
    subst hls
    have ht := re_t (a := some (.loc n)) (b := some (.loc S.length)) (c := x) (d := y) (e := z) (f := w) (get_mid1 (S0 := S) (a := O.dT (ps.map mtD)) (o := .lst (([] : List (Int × Int)).map prD)) (J := J))
    exact ⟨ps, _, _, _, _, _, while_end ht, hr⟩
  | succ M ih =>
    intro ps ls J x y z w h1 h2 h3 hr
    have ht := re_t (a := some (.loc n)) (b := some (.loc S.length)) (c := x) (d := y) (e := z) (f := w) (get_mid1 (S0 := S) (a := O.dT (ps.map mtD)) (o := .lst (ls.map prD)) (J := J))
    rcases List.eq_nil_or_concat ls with rfl | ⟨ls0, q, rfl⟩
    · exact ⟨ps, _, _, _, _, _, while_end ht, hr⟩
    · rw [List.concat_eq_append] at *
      have hne : decide ((ls0 ++ [q]).map prD ≠ []) = true := decide_eq_true (by simp)
      rw [hne] at ht
      rw [List.length_append, List.length_singleton] at h1
      obtain ⟨f, s⟩ := q
      have hv := hr.vl (f, s) (by simp)
      by_cases hm : (f, s) ∈ ps
      · have htv : (tv (ps.map mtD) f s).isSome = true := by rw [mt_tv]; exact decide_eq_true hm
        have eb := re_old (ls := ls0) (J := J) (x := x) (y := y) (z := z) (w := w) hS htv
        rw [while_go ht eb]
        exact ih ps ls0 J _ _ _ _ (by omega) h2 (by omega) (hr.old hm)
      · have htv : (tv (ps.map mtD) f s).isSome = false := by rw [mt_tv]; exact decide_eq_false hm
        have hp := re_pop (f := f) (s := s) (ls := ls0) (kvs := ps.map mtD) (J := J) hS
        have hM : (S ++ O.dT (ps.map mtD) :: O.lst (ls0.map prD) :: J)[S.length]? = some (.dT (ps.map mtD)) := get_mid
        have hin := in_tab (neg := true) (a := f) (b := s) (.inl hM)
        rw [htv] at hin
        have hS2 := app_get hS (O.dT (ps.map mtD) :: O.lst (ls0.map prD) :: J)
        have hfl : fldD [(0, 4)] (.loc n) (S ++ O.dT (ps.map mtD) :: O.lst (ls0.map prD) :: J) = some (.int (p.T + (3 * (p.D + l) + 3))) := by unfold sprO at hS2; simp only [fldD, hS2]; rfl
        obtain ⟨v1, v2, v3, v4⟩ := hv
        have hov : ¬ p.T - 1 ≤ s + p.g := v2
        have hmet : putD (ps.map mtD) [.inl f, .inl s] (.bl true) = (ps ++ [(f, s)]).map mtD := by
          rw [(put_fresh (v := D.bl true) htv).1, List.map_append]; rfl
        have h3' : (S ++ O.dT (ps.map mtD) :: O.lst (ls0.map prD) :: J).set S.length (.dT (putD (ps.map mtD) [.inl f, .inl s] (.bl true))) = S ++ O.dT ((ps ++ [(f, s)]).map mtD) :: O.lst (ls0.map prD) :: J := by rw [hmet, set_mid]
        have e1 := followers_eq (f := f) (s := s) hl (app_get hS (O.dT ((ps ++ [(f, s)]).map mtD) :: O.lst (ls0.map prD) :: J)) (by omega) (by omega) (by omega)
        have hwl : (p.ways f s).length ≤ 40 := by
          unfold Par.ways
          rw [List.length_append, List.length_map]
          have : (p.news f s).length ≤ 30 := by simp only [Par.news, rgI, List.length_map, List.length_range, Par.lo]; omega
          split <;> simp <;> omega
        have hnl := nu_le ps
        obtain ⟨x', y', z', e2⟩ := re_loop (p := p) (J := J) (l := l) (f := f) (me := some (.loc S.length)) (pr := some (.tup [.int f, .int s])) (a := O.dT ((ps ++ [(f, s)]).map mtD)) (all := (p.ways f s).map (flD f)) hS (p.ways f s) ls0 y z w (by omega)
        have hlen : (S ++ O.dT ((ps ++ [(f, s)]).map mtD) :: O.lst (ls0.map prD) :: J).length = S.length + 2 + J.length := by simp; omega
        rw [hlen] at e1
        have hk : (S ++ O.dT ((ps ++ [(f, s)]).map mtD) :: O.lst (ls0.map prD) :: J ++ [O.lst ((p.ways f s).map (flD f))])[S.length + 2 + J.length]? = some (.lst ((p.ways f s).map (flD f))) := by rw [← hlen]; exact get_last
        have eapp : S ++ O.dT ((ps ++ [(f, s)]).map mtD) :: O.lst (ls0.map prD) :: J ++ [O.lst ((p.ways f s).map (flD f))] = S ++ O.dT ((ps ++ [(f, s)]).map mtD) :: O.lst (ls0.map prD) :: (J ++ [O.lst ((p.ways f s).map (flD f))]) := by simp
        rw [eapp] at e1 hk
        have eb := re_new_m (x := x) (y := y) (z := z) (w := w) (get_mid1 (S0 := S) (a := O.dT (ps.map mtD)) (o := .lst ((ls0 ++ [(f, s)]).map prD)) (J := J)) hp hin hfl (by omega) hM (by rw [List.length_map]; omega) h3' e1 hk e2
        rw [while_go ht eb]
        have hnu := nu_add (mem_vps.mpr (show 0 ≤ f ∧ f < 400 ∧ -1 ≤ s ∧ s < 399 by omega)) hm
        have hpl : (p.push f (p.ways f s)).length ≤ 40 := by
          unfold Par.push
          rw [List.length_map]
          exact Nat.le_trans (List.length_filter_le _ _) hwl
        exact ih (ps ++ [(f, s)]) (ls0 ++ p.push f (p.ways f s)) _ _ _ _ _ (by rw [List.length_append]; omega) (by rw [List.length_append, List.length_singleton]; omega) (by omega) (hr.new hm)
theorem re_m {S S2 : Sto} {n k : Nat} {t d l g : Int} {L0 : List D} {x' y' z' w' : Option D} (hS : S[n]? = some (sprO t d l g)) (hL : L0 = if t - 1 ≤ -1 + g then [] else [.tup [.int 0, .int (-1)]])
    (e : whileF reT mreachable_b2 k [some (.loc n), some (.loc S.length), some (.loc (S.length + 1)), none, none, none, none] (S ++ [O.dT [], O.lst L0]) = .nx [some (.loc n), some (.loc S.length), some (.loc (S.length + 1)), x', y', z', w'] S2) :
    mreachable [some (.loc n), none, none, none, none, none, none] S = .ret (.loc S.length) S2 := by
  have ew : mWhile reT mreachable_b2 [some (.loc n), some (.loc S.length), some (.loc (S.length + 1)), none, none, none, none] (S ++ [O.dT [], O.lst L0]) = .nx [some (.loc n), some (.loc S.length), some (.loc (S.length + 1)), x', y', z', w'] S2 := by
    rw [mWhile_of (by rw [e]; exact fun z => nomatch z), e]
  have hS2 := app_get hS [O.dT [], O.lst []]
  have e2 := over_eq hS2 (-1)
  have hc := met_of (F := fSpread__is_over) hS2
  have hg : (S ++ [O.dT [], O.lst []])[S.length + 1]? = some (.lst []) := by simp
  unfold mreachable
  generalize mWhile reT mreachable_b2 = mw at ew
  by_cases h : t - 1 ≤ -1 + g
  · rw [if_pos h] at hL
    subst hL
    simp [hc, e2, h, ew, sizeLine_eq]
  · rw [if_neg h] at hL
    subst hL
    simp [hc, e2, h, ew, sizeLine_eq]
theorem nu_start (ps ls : List (Int × Int)) (h : ls.length ≤ 1) (hp : ps.length ≤ 1000) : nu ps * 50 + ls.length ≤ 8000001 ∧ nu ps + ps.length ≤ 200000 := by
  have hn := nu_le ps
  generalize nu ps = N at hn ⊢
  omega
theorem reachable_eq {p : Par} {S : Sto} {l : Int} {n : Nat} (hl : p.D + l = p.L) (hl0 : 0 ≤ l) (hS : S[n]? = some (sprO p.T p.D l p.g)) (hb1 : p.T ≤ 24) (hb2 : p.L ≤ 6) :
    ∃ ps : List (Int × Int), freachable [.loc n] S = .ok (.loc S.length) (S ++ [O.dT (ps.map mtD)]) ∧ ps.Nodup ∧ ∀ f s, (f, s) ∈ ps ↔ Vd p f s := by
  have hL := p.hL
  have hr : Re p [] (if p.over (-1) then [] else [(0, -1)]) := by
    refine ⟨List.nodup_nil, (fun x hx => by cases hx), fun x hx => ?_, (fun x hx => by cases hx), fun ho => ?_⟩
    · split at hx
      · cases hx
      · rw [List.mem_singleton.mp hx]
        exact ⟨by simp, by assumption, by simp, by simp; omega⟩
    · rw [if_neg ho]; exact .inr (by simp)
  obtain ⟨M, hM⟩ : ∃ M, M = 8000001 := ⟨_, rfl⟩
  have hs := nu_start [] (if p.over (-1) then [] else [(0, -1)]) (by split <;> simp) (by simp)
  obtain ⟨ps, J, x, y, z, w, e, h⟩ := re_while hl hl0 hS hb1 hb2 M [] (if p.over (-1) then [] else [(0, -1)]) [] none none none none (by rw [hM]; exact hs.1) hs.2 (by rw [hM]; decide) hr
  have em := re_m hS (L0 := (if p.over (-1) then [] else [((0 : Int), (-1 : Int))]).map prD) (by
    by_cases ho : p.over (-1)
    · rw [if_pos ho, if_pos (show p.T - 1 ≤ -1 + p.g from ho)]; rfl
    · rw [if_neg ho, if_neg (show ¬ p.T - 1 ≤ -1 + p.g from ho)]; rfl) e
  have er : ([D.loc n].map some ++ List.replicate (7 - 1) none : Sd) = [some (.loc n), none, none, none, none, none, none] := rfl
  refine ⟨ps, ?_, h.nd, fun f s => ⟨fun hm => h.vp _ hm, fun hv => h.all hv⟩⟩
  unfold freachable runB
  rw [er, em]
  refine trim_new (by simp) get_mid ?_
  simp only [O.und, List.all_eq_true]
  intro e he
  obtain ⟨x, _, rfl⟩ := List.mem_map.mp he
  rfl
/-! ### the bar that is told -/
def barOf (p : Par) (ps : List (Int × Int)) : List Tr := (sortP ps).map fun x => (x.1, x.2, p.Vf x.1 x.2)
theorem wb_comp {p : Par} {S : Sto} {q m : Nat} {kvs : Tab} {ps : List (Int × Int)} {a b c d e : Option D} {g : Option D} (hQ : S[q]? = some (.lst (ps.map prD))) (hM : TabAt S m kvs) (hv : ∀ x ∈ ps, tv kvs x.1 x.2 = some (.int (p.Vf x.1 x.2))) (hz : ps.length ≤ 100000) :
    compL (.at_ q (.lst (ps.map prD)) (ps.map prD)) (gN 6) mYes (mL fTup (aCons (mOp fSub_ (mVar 6) (mC (.int 0))) (aCons (mOp fSub_ (mVar 6) (mC (.int 1))) (aCons (mOp fSub_ (mVar 5) (mVar 6)) aNil)))) [6] [a, b, c, d, e, some (.loc m), g] (ps.map prD) [] S =
      .ok (.loc S.length) (S ++ [O.lst (ps.map fun x => trD (x.1, x.2, p.Vf x.1 x.2))]) := by
  have h := compL_map (src := .at_ q (.lst (ps.map prD)) (ps.map prD)) (g := gN 6) (e := mL fTup (aCons (mOp fSub_ (mVar 6) (mC (.int 0))) (aCons (mOp fSub_ (mVar 6) (mC (.int 1))) (aCons (mOp fSub_ (mVar 5) (mVar 6)) aNil)))) (vs := [6]) (σ := [a, b, c, d, e, some (.loc m), g]) (S := S)
    (fun d => match d with
      | .tup [.int f, .int s] => trD (f, s, p.Vf f s)
      | _ => .non) hQ (ps.map prD) (fun d hd => by
      obtain ⟨x, hx, rfl⟩ := List.mem_map.mp hd
      have hs := sub_tab (a := x.1) (b := x.2) hM
      rw [hv x hx] at hs
      exact ⟨_, rfl, by simp [prD, trD, wipeD, hs, atI, ixN, sizeLine_eq]⟩) (by rw [List.length_map, sizeLine_eq]; omega)
  rw [List.map_map] at h
  exact h
end G
set_option linter.all false
set_option maxRecDepth 100000
set_option maxHeartbeats 4000000
namespace G
open PySem PySem.Spec PyProof.Rows L2 FL
variable [KMap]
theorem wbar_m {S S1 S2 S3 : Sto} {t d l g : Int} {m r : Nat} {L trs : List D} (e1 : fSpread____init__ [.loc S.length, .int t, .int d, .int l, .int g] (S ++ [.ins 0 []]) = .ok .non S1) (e2 : frows_of [.loc S.length] S1 = .ok (.loc m) S2)
    (e3 : freachable [.loc S.length] S2 = .ok (.loc r) S3) (e4 : fSortDT [.loc r] S3 = .ok (.loc S3.length) (S3 ++ [O.lst L]))
    (e5 : compL (.at_ S3.length (.lst L) L) (gN 6) mYes (mL fTup (aCons (mOp fSub_ (mVar 6) (mC (.int 0))) (aCons (mOp fSub_ (mVar 6) (mC (.int 1))) (aCons (mOp fSub_ (mVar 5) (mVar 6)) aNil)))) [6] [some (.int t), some (.int d), some (.int l), some (.int g), some (.loc S.length), some (.loc m), none] L [] (S3 ++ [O.lst L]) =
      .ok (.loc (S3 ++ [O.lst L]).length) (S3 ++ [O.lst L] ++ [O.lst trs])) :
    mworst_bar [some (.int t), some (.int d), some (.int l), some (.int g), none, none, none] S = .ret (.tup trs) (S3 ++ [O.lst L] ++ [O.lst trs]) := by
  have hk : (S3 ++ [O.lst L])[S3.length]? = some (.lst L) := get_last
  have hk2 : (S3 ++ [O.lst L] ++ [O.lst trs])[(S3 ++ [O.lst L]).length]? = some (.lst trs) := get_last
  obtain ⟨S4, hS4⟩ : ∃ S4, S4 = S3 ++ [O.lst L] := ⟨_, rfl⟩
  rw [← hS4] at e4 e5 hk hk2 ⊢
  obtain ⟨S5, hS5⟩ : ∃ S5, S5 = S4 ++ [O.lst trs] := ⟨_, rfl⟩
  rw [← hS5] at e5 hk2 ⊢
  have hc : mComp (mIt (mL fSortDT (aCons (mL freachable (aCons (mVar 4) aNil)) aNil))) (gN 6) mYes (mL fTup (aCons (mOp fSub_ (mVar 6) (mC (.int 0))) (aCons (mOp fSub_ (mVar 6) (mC (.int 1))) (aCons (mOp fSub_ (mVar 5) (mVar 6)) aNil)))) [6] [some (.int t), some (.int d), some (.int l), some (.int g), some (.loc S.length), some (.loc m), none] S2 = .ok (.loc S4.length) S5 := by
    have hi : mIt (mL fSortDT (aCons (mL freachable (aCons (mVar 4) aNil)) aNil)) [some (.int t), some (.int d), some (.int l), some (.int g), some (.loc S.length), some (.loc m), none] S2 = .ok (.at_ S3.length (.lst L) L) S4 := by simp [e3, e4, hk]
    show (mIt _ _ S2).bind (compK _ _ _ _ _) = _
    rw [hi, R.bind_ok]
    exact e5
  unfold mworst_bar
  generalize mComp (mIt (mL fSortDT (aCons (mL freachable (aCons (mVar 4) aNil)) aNil))) (gN 6) mYes (mL fTup (aCons (mOp fSub_ (mVar 6) (mC (.int 0))) (aCons (mOp fSub_ (mVar 6) (mC (.int 1))) (aCons (mOp fSub_ (mVar 5) (mVar 6)) aNil)))) [6] = mc at hc
  simp [e1, e2, hc, hk2, sizeLine_eq]
theorem und_trs (k : Nat) (ts : List Tr) : D.und k (.tup (ts.map trD)) = true := by
  rw [und_tup, unds_all, List.all_eq_true]
  intro d hd
  obtain ⟨a, _, rfl⟩ := List.mem_map.mp hd
  simp [trD]
theorem vd_small {p : Par} {f s : Int} (h : Vd p f s) (hb1 : p.T ≤ 24) (hb2 : p.L ≤ 6) : (f, s) ∈ vps := by
  obtain ⟨h1, h2, h3, h4⟩ := h
  have hg := p.hg
  have h2 : ¬ p.T - 1 ≤ s + p.g := h2
  exact mem_vps.mpr (by omega)
theorem flat_le {α β : Type} (f : α → List β) (w : Nat) : ∀ (l : List α), (∀ x ∈ l, (f x).length ≤ w) → (l.flatMap f).length ≤ w * l.length
  | [], _ => by simp
  | x :: r, h => by
    rw [List.flatMap_cons, List.length_append, List.length_cons, Nat.mul_add, Nat.mul_one]
    have h1 := h x (by simp)
    have h2 := flat_le f w r fun y hy => h y (by simp [hy])
    omega
theorem len_small {p : Par} {ps : List (Int × Int)} (hn : ps.Nodup) (hv : ∀ f s, (f, s) ∈ ps → Vd p f s) (hb1 : p.T ≤ 24) (hb2 : p.L ≤ 6) : ps.length ≤ 5000 := by
  have hg := p.hg
  have hL := p.hL
  have hsub : ∀ x ∈ ps, x ∈ (rgI (-1) 30).flatMap fun s => (rgI (s + 1) 7).map fun f => (f, s) := fun x hx => by
    obtain ⟨h1, h2, h3, h4⟩ := hv x.1 x.2 hx
    have h2 : ¬ p.T - 1 ≤ x.2 + p.g := h2
    exact List.mem_flatMap.mpr ⟨x.2, mem_rgI.mpr (by omega), List.mem_map.mpr ⟨x.1, mem_rgI.mpr (by omega), rfl⟩⟩
  have h1 := hn.length_le_of_subset hsub
  have h2 := flat_le (fun s => (rgI (s + 1) 7).map fun f => (f, s)) 7 (rgI (-1) 30) fun s _ => by simp [rgI]
  have h3 : (rgI (-1) 30).length = 30 := by simp [rgI]
  omega
theorem worst_bar_eq {p : Par} {S : Sto} {l : Int} (hl : p.D + l = p.L) (hl0 : 0 ≤ l) (hb1 : p.T ≤ 24) (hb2 : p.L ≤ 6) :
    ∃ ps : List (Int × Int), fworst_bar [.int p.T, .int p.D, .int l, .int p.g] S = .ok (.tup ((barOf p ps).map trD)) S ∧ ps.Nodup ∧ ∀ f s, (f, s) ∈ ps ↔ Vd p f s := by
  have e1 := init_eq p.T p.D l p.g S
  obtain ⟨S1, hS1⟩ : ∃ S1, S1 = S ++ [sprO p.T p.D l p.g] := ⟨_, rfl⟩
  rw [← hS1] at e1
  have hsp : S1[S.length]? = some (sprO p.T p.D l p.g) := by rw [hS1]; simp
  obtain ⟨kvs, e2, hT⟩ := rows_eq hl hl0 hsp (by omega) (by omega)
  obtain ⟨S2, hS2⟩ : ∃ S2, S2 = S1 ++ [O.dT kvs] := ⟨_, rfl⟩
  have hM2 : S2[S1.length]? = some (.dT kvs) := by rw [hS2]; exact get_last
  rw [← hS2] at e2
  have hsp2 : S2[S.length]? = some (sprO p.T p.D l p.g) := by rw [hS2]; exact app_get hsp _
  obtain ⟨ps, e3, hn, hv⟩ := reachable_eq hl hl0 hsp2 hb1 hb2
  obtain ⟨S3, hS3⟩ : ∃ S3, S3 = S2 ++ [O.dT (ps.map mtD)] := ⟨_, rfl⟩
  have hM3 : S3[S2.length]? = some (.dT (ps.map mtD)) := by rw [hS3]; exact get_last
  rw [← hS3] at e3
  have e4 := sortDT_eq (ps := ps) hM3 (mt_keys ps)
  have hmem : ∀ x ∈ sortP ps, Vd p x.1 x.2 := fun x hx => (hv x.1 x.2).mp ((sortP_perm ps).mem_iff.mp hx)
  have hlen := len_small hn (fun f s h => (hv f s).mp h) hb1 hb2
  have hMk : TabAt (S3 ++ [O.lst ((sortP ps).map prD)]) S1.length kvs := .inl (app_get (by rw [hS3]; exact app_get hM2 _) _)
  have e5 := wb_comp (p := p) (q := S3.length) (m := S1.length) (ps := sortP ps) (a := some (.int p.T)) (b := some (.int p.D)) (c := some (.int l)) (d := some (.int p.g)) (e := some (.loc S.length)) (g := none) (get_last (S := S3) (o := .lst ((sortP ps).map prD))) hMk (fun x hx => by
    obtain ⟨h1, h2, h3, h4⟩ := hmem x hx
    exact hT x.1 (by omega) x.2 h1 (by omega) h4 h2) (by rw [(sortP_perm ps).length_eq]; omega)
  have em := wbar_m e1 e2 e3 e4 e5
  have hb : (sortP ps).map (fun x => trD (x.1, x.2, p.Vf x.1 x.2)) = (barOf p ps).map trD := by unfold barOf; rw [List.map_map]; rfl
  rw [hb] at em
  have er : ([D.int p.T, D.int p.D, D.int l, D.int p.g].map some ++ List.replicate (7 - 4) none : Sd) = [some (.int p.T), some (.int p.D), some (.int l), some (.int p.g), none, none, none] := rfl
  refine ⟨ps, ?_, hn, hv⟩
  unfold fworst_bar runB
  rw [er, em]
  have ej : S3 ++ [O.lst ((sortP ps).map prD)] ++ [O.lst ((barOf p ps).map trD)] = S ++ ([sprO p.T p.D l p.g] ++ [O.dT kvs] ++ [O.dT (ps.map mtD)] ++ [O.lst ((sortP ps).map prD)] ++ [O.lst ((barOf p ps).map trD)]) := by
    rw [hS3, hS2, hS1]; simp
  rw [ej]
  have hu := und_trs S.length (barOf p ps)
  generalize [sprO p.T p.D l p.g] ++ [O.dT kvs] ++ [O.dT (ps.map mtD)] ++ [O.lst ((sortP ps).map prD)] ++ [O.lst ((barOf p ps).map trD)] = J
  exact trim_pre hu
end G
set_option linter.all false
set_option maxRecDepth 100000
set_option maxHeartbeats 4000000
namespace G
open PySem PySem.Spec PyProof.Rows L2 FL
variable [KMap]
theorem trim_d2 {x y : O} {J : Sto} {d : D} {a b c : Int} (hd : d.und (J.length + 2) = true) : trim (x :: y :: J) d (x :: .lst [.loc 0, .int a, .int b, .int c] :: J) = .ok d (x :: .lst [.loc 0, .int a, .int b, .int c] :: J) := by
  refine trim_keep rfl hd fun i hi => ?_
  match i with
  | 0 => exact .inl rfl
  | 1 => exact .inr ⟨_, rfl, by simp [O.und]⟩
  | i + 2 => exact .inl rfl
theorem fmod_range {x m : Int} (h : 0 < m) : 0 ≤ x.fmod m ∧ x.fmod m < m := ⟨Int.fmod_nonneg_of_pos x h, Int.fmod_lt_of_pos x h⟩
theorem draw_eq0 (ns : List Int) (p r s : Int) (J : Sto) (many : Int) (h0 : 0 < many) (h1 : many < 1000000) (hp : 0 ≤ p) :
    ∃ x p' r' s', 0 ≤ p' ∧ f_law_draw [.loc 1, .int many] (dst ns p r s ++ J) = .ok (.int (Int.fmod x many)) (dst ns p' r' s' ++ J) := by
  have hm : many ≠ 0 := by omega
  have hn : many.natAbs < 1073741824 := by omega
  have hP : ¬ ((2 : Int) ^ 6000 = 0) := fun z => absurd (Int.pow_pos (n := 2) (m := 6000) (by decide)) (by rw [z]; decide)
  by_cases hr : 0 < r
  · refine ⟨r, p, Int.fdiv r many, s, hp, ?_⟩
    simp [f_law_draw, runB, m_law_draw, dst, hr, hm, hn, atI, ixN, trim_d2]
  · have hp1 : 0 ≤ p + 1 := by omega
    generalize hQ : (2 : Int) ^ 6000 = Z at hP
    by_cases hl : p < ns.length
    · have hl' : p.toNat < ns.length := by omega
      by_cases hneg : ns[p.toNat] < 0
      · by_cases hb : 2000000000000000000 ≤ 2 * -ns[p.toNat] + 1
        · refine ⟨?x1, p + 1, ?r1, ?s1, hp1, ?e1⟩
          case e1 =>
            simp [f_law_draw, runB, m_law_draw, dst, hr, hm, hn, atI, ixN, hl, hp, hneg, hb, hQ, hP]
            rw [trim_d2 (by simp)]
        · refine ⟨?x2, p + 1, ?r2, ?s2, hp1, ?e2⟩
          case e2 =>
            simp [f_law_draw, runB, m_law_draw, dst, hr, hm, hn, atI, ixN, hl, hp, hneg, hb, hQ, hP]
            rw [trim_d2 (by simp)]
      · by_cases hb : 2000000000000000000 ≤ 2 * ns[p.toNat]
        · refine ⟨?x3, p + 1, ?r3, ?s3, hp1, ?e3⟩
          case e3 =>
            simp [f_law_draw, runB, m_law_draw, dst, hr, hm, hn, atI, ixN, hl, hp, hneg, hb, hQ, hP]
            rw [trim_d2 (by simp)]
        · refine ⟨?x4, p + 1, ?r4, ?s4, hp1, ?e4⟩
          case e4 =>
            simp [f_law_draw, runB, m_law_draw, dst, hr, hm, hn, atI, ixN, hl, hp, hneg, hb, hQ, hP]
            rw [trim_d2 (by simp)]
    · refine ⟨?x5, p + 1, ?r5, ?s5, hp1, ?e5⟩
      case e5 =>
        simp [f_law_draw, runB, m_law_draw, dst, hr, hm, hn, atI, ixN, hl, hp, hQ, hP]
        rw [trim_d2 (by simp)]
/-- a draw: a number below many, the draws' state again one -/
theorem draw_eq (ns : List Int) (p r s : Int) (J : Sto) (many : Int) (h0 : 0 < many) (h1 : many < 1000000) (hp : 0 ≤ p) :
    ∃ k p' r' s', 0 ≤ k ∧ k < many ∧ 0 ≤ p' ∧ f_law_draw [.loc 1, .int many] (dst ns p r s ++ J) = .ok (.int k) (dst ns p' r' s' ++ J) := by
  obtain ⟨x, p', r', s', h, e⟩ := draw_eq0 ns p r s J many h0 h1 hp
  exact ⟨_, p', r', s', (fmod_range h0).1, (fmod_range h0).2, h, e⟩

/-- a pick out of a list of data -/
theorem pick_eq (ns : List Int) (p r s : Int) (J : Sto) (row : List D) (h0 : 0 < row.length) (h1 : row.length < 1000000) (hp : 0 ≤ p) (hu : ∀ x ∈ row, x.und (2 + (J.length + 1)) = true) :
    ∃ x p' r' s', x ∈ row ∧ 0 ≤ p' ∧ f_law_pick [.loc 1, .loc (2 + J.length)] (dst ns p r s ++ (J ++ [.lst row])) = .ok x (dst ns p' r' s' ++ (J ++ [.lst row])) := by
  obtain ⟨k, p', r', s', hk0, hk1, hp', e⟩ := draw_eq ns p r s (J ++ [.lst row]) row.length (by omega) (by omega) hp
  have hk : k.toNat < row.length := by omega
  have hx : row[k.toNat] ∈ row := List.getElem_mem hk
  refine ⟨row[k.toNat], p', r', s', hx, hp', ?_⟩
  have hu' := hu _ hx
  have ha : atI row k = some row[k.toNat] := by simp only [atI, ixN]; rw [if_pos hk0, if_pos (by omega)]; exact List.getElem?_eq_getElem hk
  generalize row[k.toNat] = x at *
  simp [f_law_pick, runB, m_law_pick, e, ha]
  exact trim_dst (by simpa using hu')
/-- .. out of a tuple -/
theorem pickT_eq (ns : List Int) (p r s : Int) (J : Sto) (row : List D) (h0 : 0 < row.length) (h1 : row.length < 1000000) (hp : 0 ≤ p) (hu : ∀ x ∈ row, x.und (2 + J.length) = true) :
    ∃ x p' r' s', x ∈ row ∧ 0 ≤ p' ∧ f_law_pick [.loc 1, .tup row] (dst ns p r s ++ J) = .ok x (dst ns p' r' s' ++ J) := by
  obtain ⟨k, p', r', s', hk0, hk1, hp', e⟩ := draw_eq ns p r s J row.length (by omega) (by omega) hp
  have hk : k.toNat < row.length := by omega
  have hx : row[k.toNat] ∈ row := List.getElem_mem hk
  refine ⟨row[k.toNat], p', r', s', hx, hp', ?_⟩
  have hu' := hu _ hx
  have ha : atI row k = some row[k.toNat] := by simp only [atI, ixN]; rw [if_pos hk0, if_pos (by omega)]; exact List.getElem?_eq_getElem hk
  generalize row[k.toNat] = x at *
  simp [f_law_pick, runB, m_law_pick, e, ha]
  exact trim_dst hu'
/-- a pick out of a written row of ints -/
theorem pickI_eq (ns : List Int) (p r s : Int) (J : Sto) (row : List Int) (h0 : 0 < row.length) (h1 : row.length < 1000000) (hp : 0 ≤ p) :
    ∃ x p' r' s', x ∈ row ∧ 0 ≤ p' ∧ f_law_pick [.loc 1, .loc (2 + J.length)] (dst ns p r s ++ (J ++ [.lst (row.map D.int)])) = .ok (.int x) (dst ns p' r' s' ++ (J ++ [.lst (row.map D.int)])) := by
  obtain ⟨x, p', r', s', hx, hp', e⟩ := pick_eq ns p r s J (row.map D.int) (by simpa using h0) (by simpa using h1) hp (fun x hx => by obtain ⟨i, _, rfl⟩ := List.mem_map.mp hx; simp)
  obtain ⟨i, hi, rfl⟩ := List.mem_map.mp hx
  exact ⟨i, p', r', s', hi, hp', e⟩

end G
set_option linter.all false
set_option maxRecDepth 100000
set_option maxHeartbeats 4000000
namespace G
open PySem PySem.Spec PyProof.Rows L2 FL
variable [KMap]
/-! ### the law's rows, drawn -/
theorem trim_dnew {ns : List Int} {p r s p' r' s' : Int} {J J' : Sto} {o : O} (ho : o.und (2 + J.length) = true) :
    trim (dst ns p r s ++ J) (.loc (2 + J.length)) (dst ns p' r' s' ++ (J ++ o :: J')) = .ok (.loc (2 + J.length)) (dst ns p' r' s' ++ (J ++ [o])) := by
  have hl : (dst ns p r s ++ J).length = 2 + J.length := by simp
  unfold trim
  rw [if_pos ?k, if_neg (by rw [und_loc, hl]; simp)]
  · have hg : (dst ns p' r' s' ++ (J ++ o :: J'))[2 + J.length]? = some o := by rw [dst_get]; simp
    simp only [hg, hl]
    rw [if_pos ho]
    congr 1
    have e : dst ns p' r' s' ++ (J ++ o :: J') = (dst ns p' r' s' ++ J) ++ (o :: J') := by simp
    rw [e, List.take_left' (by simp)]
    simp
  · refine ⟨by simp, fun i hi => ?_⟩
    match i with
    | 0 => exact .inl rfl
    | 1 => exact .inr ⟨_, rfl, by simp [O.und]; omega⟩
    | i + 2 =>
      refine .inl ?_
      rw [dst_get2, dst_get2, List.getElem?_append_left (by rw [hl] at hi; omega)]
/-- a table of the law's store -/
def TJ (ns : List Int) (J : Sto) (m : Nat) (kvs : Tab) : Prop := ∀ p r s, (dst ns p r s ++ J)[m]? = some (.dT kvs)
theorem TJ.app {ns : List Int} {J : Sto} {m : Nat} {kvs : Tab} (h : TJ ns J m kvs) (J' : Sto) : TJ ns (J ++ J') m kvs := fun p r s => by
  rw [← List.append_assoc]; exact app_get (h p r s) J'
def numOf (way more T Ll g fr V : Int) (x : Int × Int) : Int :=
  if way = 1 then V else if way = 2 then V + more * (fr - x.1) else if way = 3 then (T - 1 - g - x.2) * max 0 (Ll - g) + more else V + more
theorem rr_b1 {S : Sto} {t d l g way more fr V L : Int} {dd : Option D} {m q : Nat} {x : Int × Int} {nm : Option D} {kvs : Tab} {fs : List D} (hM : TabAt S m kvs) (hv : tv kvs x.1 x.2 = some (.int V)) (hq : S[q]? = some (.lst fs)) (hz : fs.length < 16777216) (hw : 0 ≤ way ∧ way < 4) (hm : 0 ≤ more ∧ more < 4)
    (hL : d + l = L) (hb : 0 ≤ L ∧ L ≤ 100 ∧ 0 ≤ g ∧ g ≤ 100) :
    m_law_right_rows_b1 [dd, some (.loc m), some (.int t), some (.int d), some (.int l), some (.int g), some (.int way), some (.int more), some (.int fr), some (.loc q), some (.int x.1), some (.int x.2), nm] S =
      .nx [dd, some (.loc m), some (.int t), some (.int d), some (.int l), some (.int g), some (.int way), some (.int more), some (.int fr), some (.loc q), some (.int x.1), some (.int x.2), some (.int (numOf way more t L g fr V x))]
        (S.set q (.lst (fs ++ [trD (x.1, x.2, numOf way more t L g fr V x)]))) := by
  have hs := sub_tab (a := x.1) (b := x.2) hM
  rw [hv] at hs
  have hsm : -18446744073709551616 < more ∧ more < 18446744073709551616 := by omega
  have hmx : (if g < L then L - g else 0) = max 0 (L - g) := by omega
  have hmx2 : -18446744073709551616 < max 0 (L - g) ∧ max 0 (L - g) < 18446744073709551616 := by omega
  unfold numOf
  generalize max 0 (L - g) = mx at *
  have hc : way = 0 ∨ way = 1 ∨ way = 2 ∨ way = 3 := by omega
  rcases hc with rfl | rfl | rfl | rfl
  · simp [m_law_right_rows_b1, hs, hq, hz, sizeLine_eq, trD]
  · simp [m_law_right_rows_b1, hs, hq, hz, sizeLine_eq, trD]
  · simp [m_law_right_rows_b1, hs, hq, hz, sizeLine_eq, trD, hsm]
  · simp [m_law_right_rows_b1, hs, hq, hz, sizeLine_eq, trD, hL, hmx, hmx2]
theorem rr_loop {p : Par} {ns : List Int} {J : Sto} {l way more fr pp r s : Int} {m : Nat} {kvs : Tab} {ps : List (Int × Int)} (hl : p.D + l = p.L) (hM : TJ ns J m kvs) (hv : ∀ x ∈ ps, tv kvs x.1 x.2 = some (.int (p.Vf x.1 x.2))) (hz : ps.length ≤ 100000) (hw : 0 ≤ way ∧ way < 4) (hm : 0 ≤ more ∧ more < 4) (hb2 : p.L ≤ 100) (hb3 : p.g ≤ 100) {dd : Option D} :
    ∃ a b c, forL (.at_ (2 + J.length + 1) (.lst (ps.map prD)) (ps.map prD)) (gTp 2 (gsCons (gN 10) (gsCons (gN 11) gsNil))) m_law_right_rows_b1 (ps.map prD)
      [dd, some (.loc m), some (.int p.T), some (.int p.D), some (.int l), some (.int p.g), some (.int way), some (.int more), some (.int fr), some (.loc (2 + J.length)), none, none, none] (dst ns pp r s ++ (J ++ [O.lst [], O.lst (ps.map prD)])) =
      .nx [dd, some (.loc m), some (.int p.T), some (.int p.D), some (.int l), some (.int p.g), some (.int way), some (.int more), some (.int fr), some (.loc (2 + J.length)), a, b, c]
        (dst ns pp r s ++ (J ++ [O.lst (ps.map fun x => trD (x.1, x.2, numOf way more p.T p.L p.g fr (p.Vf x.1 x.2) x)), O.lst (ps.map prD)])) := by
  have hgg := p.hg
  have hLL := p.hL
  have h := for_src (src := .at_ (2 + J.length + 1) (.lst (ps.map prD)) (ps.map prD)) (g := gTp 2 (gsCons (gN 10) (gsCons (gN 11) gsNil))) (b := m_law_right_rows_b1)
    (σ := [dd, some (.loc m), some (.int p.T), some (.int p.D), some (.int l), some (.int p.g), some (.int way), some (.int more), some (.int fr), some (.loc (2 + J.length)), none, none, none]) (S := dst ns pp r s ++ (J ++ [O.lst [], O.lst (ps.map prD)]))
    (fun i σ S' => ∃ a b c, σ = [dd, some (.loc m), some (.int p.T), some (.int p.D), some (.int l), some (.int p.g), some (.int way), some (.int more), some (.int fr), some (.loc (2 + J.length)), a, b, c] ∧
      S' = dst ns pp r s ++ (J ++ [O.lst ((ps.take i).map fun x => trD (x.1, x.2, numOf way more p.T p.L p.g fr (p.Vf x.1 x.2) x)), O.lst (ps.map prD)]))
    ⟨none, none, none, rfl, rfl⟩ (fun i σ S' h => by
      obtain ⟨_, _, _, _, rfl⟩ := h
      show (dst ns pp r s ++ _)[2 + J.length + 1]? = _
      rw [show 2 + J.length + 1 = 2 + (J.length + 1) by omega, dst_get]
      simp) (by
      intro i d σ S' hd h
      obtain ⟨a, b, c, rfl, rfl⟩ := h
      have hd : (ps.map prD)[i]? = some d := hd
      rw [List.getElem?_map, Option.map_eq_some_iff] at hd
      obtain ⟨x, hx, rfl⟩ := hd
      have hil := lt_of_some hx
      have hM' : TabAt (dst ns pp r s ++ (J ++ [O.lst ((ps.take i).map fun x => trD (x.1, x.2, numOf way more p.T p.L p.g fr (p.Vf x.1 x.2) x)), O.lst (ps.map prD)])) m kvs := .inl (hM.app _ pp r s)
      have hq : (dst ns pp r s ++ (J ++ [O.lst ((ps.take i).map fun x => trD (x.1, x.2, numOf way more p.T p.L p.g fr (p.Vf x.1 x.2) x)), O.lst (ps.map prD)]))[2 + J.length]? = some (.lst ((ps.take i).map fun x => trD (x.1, x.2, numOf way more p.T p.L p.g fr (p.Vf x.1 x.2) x))) := by rw [dst_get]; simp
      have e := rr_b1 (t := p.T) (d := p.D) (l := l) (g := p.g) (way := way) (more := more) (fr := fr) (dd := dd) (nm := c) (L := p.L) hM' (hv x (List.mem_of_getElem? hx)) hq (by simp; omega) hw hm hl (by omega)
      refine ⟨_, _, .inl (nx_of2 e), _, _, _, rfl, ?_⟩
      rw [List.take_add_one, hx]
      have hset : ∀ o o' o2 : O, (dst ns pp r s ++ (J ++ [o, o2])).set (2 + J.length) o' = dst ns pp r s ++ (J ++ [o', o2]) := fun o o' o2 => by
        rw [List.set_append_right _ _ (by simp), List.set_append_right _ _ (by simp)]
        simp
      rw [hset]
      simp)
  obtain ⟨σ', S', e, a, b, c, rfl, rfl⟩ := h
  have hlen : (Src.at_ (2 + J.length + 1) (.lst (ps.map prD)) (ps.map prD)).items.length = ps.length := by simp
  rw [hlen, List.take_length] at e
  exact ⟨a, b, c, e⟩
theorem rr_m {S0 S1 S2 S3 S4 : Sto} {t d l g way more fr : Int} {m q w : Nat} {L : List D} {a b c : Option D} (e1 : f_law_draw [.loc 1, .int 4] S0 = .ok (.int way) S1) (e2 : f_law_draw [.loc 1, .int 4] S1 = .ok (.int more) S2) (e3 : f_law_frames [.int t, .int d, .int l] S2 = .ok (.int fr) S2)
    (hq : S2.length = q) (e4 : fSortDT [.loc m] (S2 ++ [O.lst []]) = .ok (.loc w) S3) (hk : S3[w]? = some (.lst L))
    (e5 : forL (.at_ w (.lst L) L) (gTp 2 (gsCons (gN 10) (gsCons (gN 11) gsNil))) m_law_right_rows_b1 L [some (.loc 1), some (.loc m), some (.int t), some (.int d), some (.int l), some (.int g), some (.int way), some (.int more), some (.int fr), some (.loc q), none, none, none] S3 =
      .nx [some (.loc 1), some (.loc m), some (.int t), some (.int d), some (.int l), some (.int g), some (.int way), some (.int more), some (.int fr), some (.loc q), a, b, c] S4) :
    m_law_right_rows [some (.loc 1), some (.loc m), some (.int t), some (.int d), some (.int l), some (.int g), none, none, none, none, none, none, none] S0 = .ret (.loc q) S4 := by
  subst hq
  simp [m_law_right_rows, e1, e2, e3, e4, hk, e5, sizeLine_eq]
theorem right_rows_eq {p : Par} {ns : List Int} {J : Sto} {l pp r s : Int} {m : Nat} {kvs : Tab} {ps : List (Int × Int)} (hl : p.D + l = p.L) (hM : TJ ns J m kvs) (hk : kvs.map (·.1) = ps.map kp) (hv : ∀ x ∈ ps, tv kvs x.1 x.2 = some (.int (p.Vf x.1 x.2))) (hz : ps.length ≤ 100000) (hb2 : p.L ≤ 100) (hb3 : p.g ≤ 100) (hp : 0 ≤ pp) :
    ∃ (num : Int × Int → Int) (pp' r' s' : Int), 0 ≤ pp' ∧ f_law_right_rows [.loc 1, .loc m, .int p.T, .int p.D, .int l, .int p.g] (dst ns pp r s ++ J) = .ok (.loc (2 + J.length)) (dst ns pp' r' s' ++ (J ++ [O.lst ((sortP ps).map fun x => trD (x.1, x.2, num x))])) := by
  obtain ⟨way, p1, r1, s1, w1, w2, hp1, e1⟩ := draw_eq ns pp r s J 4 (by omega) (by omega) hp
  obtain ⟨more, p2, r2, s2, m1, m2, hp2, e2⟩ := draw_eq ns p1 r1 s1 J 4 (by omega) (by omega) hp1
  have e3 := lframes_eq p.T p.D l (dst ns p2 r2 s2 ++ J)
  have hM2 := hM.app [O.lst []] p2 r2 s2
  have e4 := sortDT_eq (ps := ps) hM2 hk
  have hlen : (dst ns p2 r2 s2 ++ (J ++ [O.lst []])).length = 2 + J.length + 1 := by simp; omega
  rw [hlen] at e4
  have hmem : ∀ x ∈ sortP ps, tv kvs x.1 x.2 = some (.int (p.Vf x.1 x.2)) := fun x hx => hv x ((sortP_perm ps).mem_iff.mp hx)
  obtain ⟨a, b, c, e5⟩ := rr_loop (pp := p2) (r := r2) (s := s2) (fr := p.T + (3 * (p.D + l) + 3)) (dd := some (.loc 1)) hl hM hmem (by rw [(sortP_perm ps).length_eq]; exact hz) ⟨w1, w2⟩ ⟨m1, m2⟩ hb2 hb3
  have e4' : fSortDT [.loc m] (dst ns p2 r2 s2 ++ J ++ [O.lst []]) = .ok (.loc (2 + J.length + 1)) (dst ns p2 r2 s2 ++ (J ++ [O.lst [], O.lst ((sortP ps).map prD)])) := by
    rw [List.append_assoc, e4]; simp
  have hk' : (dst ns p2 r2 s2 ++ (J ++ [O.lst [], O.lst ((sortP ps).map prD)]))[2 + J.length + 1]? = some (.lst ((sortP ps).map prD)) := by
    rw [show 2 + J.length + 1 = 2 + (J.length + 1) by omega, dst_get]; simp
  have em := rr_m e1 e2 e3 (by simp) e4' hk' e5
  have er : ([D.loc 1, D.loc m, D.int p.T, D.int p.D, D.int l, D.int p.g].map some ++ List.replicate (13 - 6) none : Sd) = [some (.loc 1), some (.loc m), some (.int p.T), some (.int p.D), some (.int l), some (.int p.g), none, none, none, none, none, none, none] := rfl
  refine ⟨fun x => numOf way more p.T p.L p.g (p.T + (3 * (p.D + l) + 3)) (p.Vf x.1 x.2) x, p2, r2, s2, hp2, ?_⟩
  unfold f_law_right_rows runB
  rw [er, em]
  refine trim_dnew ?_
  simp only [O.und]
  rw [unds_all, List.all_eq_true]
  intro d hd
  obtain ⟨x, _, rfl⟩ := List.mem_map.mp hd
  simp [trD]
end G
set_option linter.all false
set_option maxRecDepth 100000
set_option maxHeartbeats 4000000
namespace G
open PySem PySem.Spec PyProof.Rows L2 FL
variable [KMap]
theorem trim_dnewk {ns : List Int} {p r s p' r' s' : Int} {J J' : Sto} {o : O} {k : Nat} (hk : J'[k]? = some o) (ho : o.und (2 + J.length) = true) :
    trim (dst ns p r s ++ J) (.loc (2 + J.length + k)) (dst ns p' r' s' ++ (J ++ J')) = .ok (.loc (2 + J.length)) (dst ns p' r' s' ++ (J ++ [o])) := by
  have hl : (dst ns p r s ++ J).length = 2 + J.length := by simp
  unfold trim
  rw [if_pos ?k, if_neg (by rw [und_loc, hl]; simp)]
  · have hg : (dst ns p' r' s' ++ (J ++ J'))[2 + J.length + k]? = some o := by
      rw [show 2 + J.length + k = 2 + (J.length + k) by omega, dst_get, List.getElem?_append_right (by omega)]
      rw [show J.length + k - J.length = k by omega]; exact hk
    simp only [hg, hl]
    rw [if_pos ho]
    congr 1
    have e : dst ns p' r' s' ++ (J ++ J') = (dst ns p' r' s' ++ J) ++ J' := by simp
    rw [e, List.take_left' (by simp)]
    simp
  · refine ⟨by simp, fun i hi => ?_⟩
    match i with
    | 0 => exact .inl rfl
    | 1 => exact .inr ⟨_, rfl, by simp [O.und]; omega⟩
    | i + 2 =>
      refine .inl ?_
      rw [dst_get2, dst_get2, List.getElem?_append_left (by rw [hl] at hi; omega)]
theorem tv_none {kvs : Tab} {a b : Int} (h : kp (a, b) ∉ kvs.map (·.1)) : tv kvs a b = none := by
  unfold tv valD
  rw [Option.map_eq_none_iff, List.find?_eq_none]
  intro e he hd
  exact h (List.mem_map.mpr ⟨e, he, of_decide_eq_true hd⟩)
def kT (t : Tr) : Int × Int := (t.1, t.2.1)
theorem barT_map : ∀ (trs : List Tr) (kvs : Tab), (kvs.map (·.1) ++ trs.map fun t => kp (kT t)).Nodup → barT (trs.map trD) kvs = some (kvs ++ trs.map trK)
  | [], kvs, _ => by simp [barT]
  | t :: trs, kvs, hn => by
    have hno : kp (t.1, t.2.1) ∉ kvs.map (·.1) := fun z => by
      rw [List.map_cons, List.nodup_append] at hn
      exact hn.2.2 _ z _ (by simp [kT]) rfl
    have hv := tv_none hno
    have hs : (tv kvs t.1 t.2.1).isSome = false := by rw [hv]; rfl
    show (barStep (trD t) kvs).bind (barT (trs.map trD)) = _
    rw [show trD t = .tup [.int t.1, .int t.2.1, .int t.2.2] from rfl, barStep_yes, hs]
    simp only [Bool.false_eq_true, if_false, Option.bind_some]
    rw [(put_fresh (v := D.int t.2.2) hs).1, barT_map trs _ (by
      rw [List.map_append, List.append_assoc]
      exact hn)]
    simp [trK]
/-- what stands behind the draws: the table, the rows -/
structure Wi (p : Par) (kvs : Tab) (trs : List Tr) : Prop where
  k : kvs = trs.map trK
  nd : (trs.map fun t => kp (kT t)).Nodup
  all : ∀ f s, Vd p f s → (tv kvs f s).isSome = true
theorem Wi.int {p : Par} {kvs : Tab} {trs : List Tr} (h : Wi p kvs trs) {f s : Int} (hv : Vd p f s) : ∃ i, tv kvs f s = some (.int i) := by
  obtain ⟨d, hd⟩ := Option.isSome_iff_exists.mp (h.all f s hv)
  have hI : kvI kvs := fun e he => by
    rw [h.k] at he
    obtain ⟨t, _, rfl⟩ := List.mem_map.mp he
    exact ⟨_, rfl⟩
  obtain ⟨i, rfl⟩ := kvI_tv hI hd
  exact ⟨i, hd⟩
theorem Wi.add {p : Par} {kvs : Tab} {trs : List Tr} (h : Wi p kvs trs) {f s v : Int} (hn : (tv kvs f s).isSome = false) : Wi p (putD kvs [.inl f, .inl s] (.int v)) (trs ++ [(f, s, v)]) := by
  obtain ⟨e, hno⟩ := put_fresh (v := D.int v) hn
  refine ⟨?_, ?_, fun f' s' hv => ?_⟩
  · rw [e, List.map_append, ← h.k]; rfl
  · rw [List.map_append, List.nodup_append]
    refine ⟨h.nd, by simp, fun a ha b hb => ?_⟩
    have hb : b = kp (f, s) := by simpa [kT] using hb
    rw [hb]
    rintro rfl
    refine hno ?_
    rw [h.k, List.map_map]
    exact ha
  · rw [tv_put]
    split
    · rfl
    · exact h.all f' s' hv
theorem wi_b1 {S : Sto} {t d l g fr f nb gn nw : Int} {m : Nat} {dd rows fd tn st fi : Option D} {kvs : Tab} (hM : TabAt S m kvs) (hv : ¬ t - 1 ≤ nw + g → f + 1 < fr → ∃ i, tv kvs (f + 1) nw = some (.int i)) :
    ∃ nb' gn', m_law_wider_rows_b1 [dd, rows, some (.int t), some (.int d), some (.int l), some (.int g), some (.int fr), some (.loc m), fd, tn, st, fi, some (.int f), some (.int nb), some (.int gn), some (.int nw)] S =
      .nx [dd, rows, some (.int t), some (.int d), some (.int l), some (.int g), some (.int fr), some (.loc m), fd, tn, st, fi, some (.int f), some (.int nb'), some (.int gn'), some (.int nw)] S := by
  have hs := sub_tab (a := f + 1) (b := nw) hM
  by_cases h1 : t - 1 ≤ nw + g
  · have h1' : ¬ nw + g < t - 1 := by omega
    exact ⟨if nb < gn then gn else nb, gn, by simp [m_law_wider_rows_b1, h1']⟩
  · have h1' : nw + g < t - 1 := by omega
    by_cases h2 : f + 1 < fr
    · obtain ⟨i, hi⟩ := hv h1 h2
      rw [hi] at hs
      exact ⟨if nb < gn + i then gn + i else nb, gn + i, by simp [m_law_wider_rows_b1, h1', h2, hs, sizeLine_eq]⟩
    · exact ⟨if nb < gn then gn else nb, gn, by simp [m_law_wider_rows_b1, h1', h2]⟩
theorem wi_loop {S : Sto} {t d l g fr f : Int} {m q : Nat} {dd rows fd tn st fi : Option D} {kvs : Tab} {all : List D} (hM : TabAt S m kvs) (hQ : S[q]? = some (.lst all)) :
    ∀ (ws : List (Int × Int)) (nb : Int) (x y : Option D), (∀ w ∈ ws, ¬ t - 1 ≤ w.2 + g → f + 1 < fr → ∃ i, tv kvs (f + 1) w.2 = some (.int i)) →
    ∃ nb' x' y', forL (.at_ q (.lst all) all) (gTp 2 (gsCons (gN 14) (gsCons (gN 15) gsNil))) m_law_wider_rows_b1 (ws.map evD) [dd, rows, some (.int t), some (.int d), some (.int l), some (.int g), some (.int fr), some (.loc m), fd, tn, st, fi, some (.int f), some (.int nb), x, y] S =
      .nx [dd, rows, some (.int t), some (.int d), some (.int l), some (.int g), some (.int fr), some (.loc m), fd, tn, st, fi, some (.int f), some (.int nb'), x', y'] S
  | [], nb, x, y, _ => ⟨nb, x, y, by rw [List.map_nil, forL_nil, chk_lst hQ]⟩
  | w :: ws, nb, x, y, h => by
    obtain ⟨nb1, gn1, e⟩ := wi_b1 (d := d) (l := l) (nb := nb) (gn := w.1) (dd := dd) (rows := rows) (fd := fd) (tn := tn) (st := st) (fi := fi) hM (h w (by simp))
    obtain ⟨nb', x', y', e2⟩ := wi_loop (d := d) (l := l) (dd := dd) (rows := rows) (fd := fd) (tn := tn) (st := st) (fi := fi) hM hQ ws nb1 (some (.int gn1)) (some (.int w.2)) fun w hw => h w (by simp [hw])
    refine ⟨nb', x', y', ?_⟩
    rw [List.map_cons, forL_cons, chk_lst hQ, show evD w = .tup [.int w.1, .int w.2] from rfl, nx_of2 e]
    exact e2
theorem wi_b2_old {S0 S1 S2 : Sto} {t d l g fr k1 k2 st fi f : Int} {m q : Nat} {rows tn a b c e x y : Option D} {kvs : Tab} (e1 : f_law_draw [.loc 1, .int (t - g)] S0 = .ok (.int k1) S1) (hst : st = k1 - 1) (hfi : fi = st + 2 + d + l) (e2 : f_law_draw [.loc 1, .int (fr - fi)] S1 = .ok (.int k2) S2) (hf : f = fi + k2)
    (hM : TabAt S2 m kvs) (hv : (tv kvs f st).isSome = true) :
    m_law_wider_rows_b2 [some (.loc 1), rows, some (.int t), some (.int d), some (.int l), some (.int g), some (.int fr), some (.loc m), some (.loc q), tn, a, b, c, e, x, y] S0 =
      .nx [some (.loc 1), rows, some (.int t), some (.int d), some (.int l), some (.int g), some (.int fr), some (.loc m), some (.loc q), tn, some (.int st), some (.int fi), some (.int f), e, x, y] S2 := by
  have hin := in_tab (neg := true) (a := f) (b := st) hM
  rw [hv] at hin
  subst hst; subst hfi; subst hf
  simp [m_law_wider_rows_b2, e1, e2, hin, sizeLine_eq]
theorem wi_b2_new {S0 S1 S2 S3 S4 : Sto} {t d l g fr k1 k2 st fi f nb : Int} {m q w : Nat} {rows tn a b c e x y x' y' : Option D} {kvs : Tab} {fs ws : List D} (e1 : f_law_draw [.loc 1, .int (t - g)] S0 = .ok (.int k1) S1) (hst : st = k1 - 1) (hfi : fi = st + 2 + d + l) (e2 : f_law_draw [.loc 1, .int (fr - fi)] S1 = .ok (.int k2) S2) (hf : f = fi + k2)
    (hM : TabAt S2 m kvs) (hv : (tv kvs f st).isSome = false) (e3 : f_law_ways [.int t, .int d, .int l, .int g, .int f, .int st] S2 = .ok (.loc w) S3) (hk : S3[w]? = some (.lst ws))
    (e4 : forL (.at_ w (.lst ws) ws) (gTp 2 (gsCons (gN 14) (gsCons (gN 15) gsNil))) m_law_wider_rows_b1 ws [some (.loc 1), rows, some (.int t), some (.int d), some (.int l), some (.int g), some (.int fr), some (.loc m), some (.loc q), tn, some (.int st), some (.int fi), some (.int f), some (.int 0), x, y] S3 =
      .nx [some (.loc 1), rows, some (.int t), some (.int d), some (.int l), some (.int g), some (.int fr), some (.loc m), some (.loc q), tn, some (.int st), some (.int fi), some (.int f), some (.int nb), x', y'] S3)
    (hM3 : S3[m]? = some (.dT kvs)) (hz : kvs.length < 16777216) (h4 : S3.set m (.dT (putD kvs [.inl f, .inl st] (.int nb))) = S4) (hq : S4[q]? = some (.lst fs)) (hz2 : fs.length < 16777216) :
    m_law_wider_rows_b2 [some (.loc 1), rows, some (.int t), some (.int d), some (.int l), some (.int g), some (.int fr), some (.loc m), some (.loc q), tn, a, b, c, e, x, y] S0 =
      .nx [some (.loc 1), rows, some (.int t), some (.int d), some (.int l), some (.int g), some (.int fr), some (.loc m), some (.loc q), tn, some (.int st), some (.int fi), some (.int f), some (.int nb), x', y'] (S4.set q (.lst (fs ++ [trD (f, st, nb)]))) := by
  have hin := in_tab (neg := true) (a := f) (b := st) hM
  rw [hv] at hin
  subst hst; subst hfi; subst hf
  simp [m_law_wider_rows_b2, e1, e2, hin, e3, hk, e4, hM3, hz, h4, hq, hz2, keysK_two, sizeLine_eq, trD]
end G
set_option linter.all false
set_option maxRecDepth 100000
set_option maxHeartbeats 4000000
namespace G
open PySem PySem.Spec PyProof.Rows L2 FL
variable [KMap]
theorem dset {ns : List Int} {p r s : Int} {J J' : Sto} {o o' : O} : (dst ns p r s ++ (J ++ o :: J')).set (2 + J.length) o' = dst ns p r s ++ (J ++ o' :: J') := by
  rw [List.set_append_right _ _ (by simp), List.set_append_right _ _ (by simp)]
  simp
theorem dset1 {ns : List Int} {p r s : Int} {J J' : Sto} {a o o' : O} : (dst ns p r s ++ (J ++ a :: o :: J')).set (2 + J.length + 1) o' = dst ns p r s ++ (J ++ a :: o' :: J') := by
  rw [List.set_append_right _ _ (by simp <;> omega), List.set_append_right _ _ (by simp <;> omega)]
  have : 2 + J.length + 1 - (dst ns p r s).length - J.length = 1 := by simp <;> omega
  rw [this]; rfl
theorem dget {ns : List Int} {p r s : Int} {J J' : Sto} {o : O} : (dst ns p r s ++ (J ++ o :: J'))[2 + J.length]? = some o := by rw [dst_get]; simp
theorem dget1 {ns : List Int} {p r s : Int} {J J' : Sto} {a o : O} : (dst ns p r s ++ (J ++ a :: o :: J'))[2 + J.length + 1]? = some o := by
  rw [show 2 + J.length + 1 = 2 + (J.length + 1) by omega, dst_get, List.getElem?_append_right (by omega)]
  rw [show J.length + 1 - J.length = 1 by omega]; rfl
/-- one turn of widening -/
theorem wi_turn {p : Par} {ns : List Int} {J J' : Sto} {l pp r s : Int} {kvs : Tab} {trs : List Tr} {rows tn a b c e x y : Option D} (hl : p.D + l = p.L) (h : Wi p kvs trs) (hp : 0 ≤ pp) (hT : 1 ≤ p.T - p.g) (hb1 : p.T ≤ 24) (hb2 : p.L ≤ 6) (hz : trs.length ≤ 100000) :
    ∃ kvs' trs' J'' pp' r' s' a' b' c' e' x' y', m_law_wider_rows_b2 [some (.loc 1), rows, some (.int p.T), some (.int p.D), some (.int l), some (.int p.g), some (.int (p.T + (3 * p.L + 3))), some (.loc (2 + J.length)), some (.loc (2 + J.length + 1)), tn, a, b, c, e, x, y] (dst ns pp r s ++ (J ++ O.dT kvs :: O.lst (trs.map trD) :: J')) =
      .nx [some (.loc 1), rows, some (.int p.T), some (.int p.D), some (.int l), some (.int p.g), some (.int (p.T + (3 * p.L + 3))), some (.loc (2 + J.length)), some (.loc (2 + J.length + 1)), tn, a', b', c', e', x', y'] (dst ns pp' r' s' ++ (J ++ O.dT kvs' :: O.lst (trs'.map trD) :: J'')) ∧
      Wi p kvs' trs' ∧ 0 ≤ pp' ∧ trs'.length ≤ trs.length + 1 ∧ trs.length ≤ trs'.length := by
  have hgg := p.hg
  have hDD := p.hD
  have hDL := p.hDL
  obtain ⟨k1, p1, r1, s1, u1, u2, hp1, e1⟩ := draw_eq ns pp r s (J ++ O.dT kvs :: O.lst (trs.map trD) :: J') (p.T - p.g) (by omega) (by omega) hp
  obtain ⟨fi, hfi⟩ : ∃ fi, fi = (k1 - 1) + 2 + p.D + l := ⟨_, rfl⟩
  obtain ⟨k2, p2, r2, s2, u3, u4, hp2, e2⟩ := draw_eq ns p1 r1 s1 (J ++ O.dT kvs :: O.lst (trs.map trD) :: J') (p.T + (3 * p.L + 3) - fi) (by omega) (by omega) hp1
  have hM : TabAt (dst ns p2 r2 s2 ++ (J ++ O.dT kvs :: O.lst (trs.map trD) :: J')) (2 + J.length) kvs := .inl dget
  cases hv : (tv kvs (fi + k2) (k1 - 1)).isSome with
  | true =>
    have eb := wi_b2_old (q := 2 + J.length + 1) (rows := rows) (tn := tn) (a := a) (b := b) (c := c) (e := e) (x := x) (y := y) e1 rfl hfi e2 rfl hM hv
    exact ⟨kvs, trs, J', p2, r2, s2, _, _, _, _, _, _, eb, h, hp2, by omega, Nat.le_refl _⟩
  | false =>
    have e3 := ways_eq (p := p) (S := dst ns p2 r2 s2 ++ (J ++ O.dT kvs :: O.lst (trs.map trD) :: J')) (l := l) (f := fi + k2) (s := k1 - 1) hl (by omega) (by omega)
    have hQ : (dst ns p2 r2 s2 ++ (J ++ O.dT kvs :: O.lst (trs.map trD) :: J') ++ [O.lst ((p.ways (fi + k2) (k1 - 1)).map evD)])[(dst ns p2 r2 s2 ++ (J ++ O.dT kvs :: O.lst (trs.map trD) :: J')).length]? = some (.lst ((p.ways (fi + k2) (k1 - 1)).map evD)) := get_last
    obtain ⟨nb, x', y', e4⟩ := wi_loop (t := p.T) (d := p.D) (l := l) (g := p.g) (fr := p.T + (3 * p.L + 3)) (f := fi + k2) (dd := some (.loc 1)) (rows := rows) (fd := some (.loc (2 + J.length + 1))) (tn := tn) (st := some (.int (k1 - 1))) (fi := some (.int fi)) (tab_app hM _) hQ (p.ways (fi + k2) (k1 - 1)) 0 x y (fun w hw ho hf => by
      refine h.int ?_
      rcases mem_ways hw with ⟨_, _, e5⟩ | ⟨e5, e6, _⟩
      · omega
      · unfold Par.lo at e5
        exact ⟨by omega, ho, by omega, by omega⟩)
    have eJ : ∀ q1 q2 q3 : Int, ∀ k : Tab, ∀ t : List D, dst ns q1 q2 q3 ++ (J ++ O.dT k :: O.lst t :: J') ++ [O.lst ((p.ways (fi + k2) (k1 - 1)).map evD)] = dst ns q1 q2 q3 ++ (J ++ O.dT k :: O.lst t :: (J' ++ [O.lst ((p.ways (fi + k2) (k1 - 1)).map evD)])) := fun _ _ _ _ _ => by simp
    rw [eJ] at e3 e4 hQ
    have hkl : kvs.length = trs.length := by rw [h.k, List.length_map]
    have eb := wi_b2_new (q := 2 + J.length + 1) (rows := rows) (tn := tn) (a := a) (b := b) (c := c) (e := e) (x := x) (y := y) e1 rfl hfi e2 rfl hM hv e3 hQ e4 dget (by omega) dset dget1 (by rw [List.length_map]; omega)
    rw [dset1] at eb
    have hm : trs.map trD ++ [trD (fi + k2, k1 - 1, nb)] = (trs ++ [(fi + k2, k1 - 1, nb)]).map trD := by simp
    rw [hm] at eb
    exact ⟨_, trs ++ [(fi + k2, k1 - 1, nb)], _, p2, r2, s2, _, _, _, _, _, _, eb, h.add hv, hp2, by simp, by simp⟩
theorem wi_turns {p : Par} {ns : List Int} {J J' : Sto} {l pp r s : Int} {kvs : Tab} {trs : List Tr} {rows : Option D} (n : Nat) (hn : n ≤ 10) (hl : p.D + l = p.L) (h : Wi p kvs trs) (hp : 0 ≤ pp) (hT : 1 ≤ p.T - p.g) (hb1 : p.T ≤ 24) (hb2 : p.L ≤ 6) (hz : trs.length ≤ 90000) :
    ∃ kvs' trs' J'' pp' r' s' t' a' b' c' e' x' y', forL (.its (rgD 0 n)) (gN 9) m_law_wider_rows_b2 (rgD 0 n) [some (.loc 1), rows, some (.int p.T), some (.int p.D), some (.int l), some (.int p.g), some (.int (p.T + (3 * p.L + 3))), some (.loc (2 + J.length)), some (.loc (2 + J.length + 1)), none, none, none, none, none, none, none] (dst ns pp r s ++ (J ++ O.dT kvs :: O.lst (trs.map trD) :: J')) =
      .nx [some (.loc 1), rows, some (.int p.T), some (.int p.D), some (.int l), some (.int p.g), some (.int (p.T + (3 * p.L + 3))), some (.loc (2 + J.length)), some (.loc (2 + J.length + 1)), t', a', b', c', e', x', y'] (dst ns pp' r' s' ++ (J ++ O.dT kvs' :: O.lst (trs'.map trD) :: J'')) ∧
      Wi p kvs' trs' ∧ 0 ≤ pp' ∧ trs'.length ≤ trs.length + n ∧ trs.length ≤ trs'.length := by
  have h := for_rg (lo := 0) (n := n) (g := gN 9) (b := m_law_wider_rows_b2) (σ := [some (.loc 1), rows, some (.int p.T), some (.int p.D), some (.int l), some (.int p.g), some (.int (p.T + (3 * p.L + 3))), some (.loc (2 + J.length)), some (.loc (2 + J.length + 1)), none, none, none, none, none, none, none]) (S := dst ns pp r s ++ (J ++ O.dT kvs :: O.lst (trs.map trD) :: J'))
    (fun i σ S' => ∃ kvs' trs' J'' pp' r' s' t' a' b' c' e' x' y', σ = [some (.loc 1), rows, some (.int p.T), some (.int p.D), some (.int l), some (.int p.g), some (.int (p.T + (3 * p.L + 3))), some (.loc (2 + J.length)), some (.loc (2 + J.length + 1)), t', a', b', c', e', x', y'] ∧ S' = dst ns pp' r' s' ++ (J ++ O.dT kvs' :: O.lst (trs'.map trD) :: J'') ∧
      Wi p kvs' trs' ∧ 0 ≤ pp' ∧ trs'.length ≤ trs.length + i ∧ trs.length ≤ trs'.length)
    ⟨kvs, trs, J', pp, r, s, _, _, _, _, _, _, _, rfl, rfl, h, hp, by omega, Nat.le_refl _⟩ (by
      intro i σ S' hi hh
      obtain ⟨k1, t1, J1, q1, q2, q3, w1, w2, w3, w4, w5, w6, w7, rfl, rfl, h1, h2, h3, h4⟩ := hh
      obtain ⟨k2, t2, J2, q4, q5, q6, v2, v3, v4, v5, v6, v7, e, h5, h6, h7, h8⟩ := wi_turn (ns := ns) (J := J) (J' := J1) (r := q2) (s := q3) (rows := rows) (tn := some (.int (0 + (i : Int)))) (a := w2) (b := w3) (c := w4) (e := w5) (x := w6) (y := w7) hl h1 h2 hT hb1 hb2 (by omega)
      exact ⟨_, _, .inl (nx_of e), k2, t2, J2, q4, q5, q6, _, _, _, _, _, _, _, rfl, rfl, h5, h6, by omega, by omega⟩)
  obtain ⟨σ', S', e, k1, t1, J1, q1, q2, q3, w1, w2, w3, w4, w5, w6, w7, rfl, rfl, h1, h2, h3, h4⟩ := h
  exact ⟨k1, t1, J1, q1, q2, q3, _, _, _, _, _, _, _, e, h1, h2, h3, h4⟩
theorem wr_m {S0 S1 S2 S3 S4 : Sto} {t d l g fr n : Int} {q m w : Nat} {L : List D} {r1 r2 r3 r4 r5 r6 r7 : Option D} (hq : S0[q]? = some (.lst L)) (e1 : f_law_frames [.int t, .int d, .int l] S0 = .ok (.int fr) S0) (e2 : f_law_bar_table [.tup L] S0 = .ok (.loc m) S1) (hq1 : S1[q]? = some (.lst L)) (hw : S1.length = w)
    (h2 : S1 ++ [O.lst L] ++ [O.lst [.int 0, .int 1, .int 2]] = S2) (e3 : f_law_pick [.loc 1, .loc (w + 1)] S2 = .ok (.int n) S3) (hn : 0 ≤ n ∧ n ≤ 2)
    (e4 : forL (.its (rgD 0 n.toNat)) (gN 9) m_law_wider_rows_b2 (rgD 0 n.toNat) [some (.loc 1), some (.loc q), some (.int t), some (.int d), some (.int l), some (.int g), some (.int fr), some (.loc m), some (.loc w), none, none, none, none, none, none, none] S3 =
      .nx [some (.loc 1), some (.loc q), some (.int t), some (.int d), some (.int l), some (.int g), some (.int fr), some (.loc m), some (.loc w), r1, r2, r3, r4, r5, r6, r7] S4) :
    m_law_wider_rows [some (.loc 1), some (.loc q), some (.int t), some (.int d), some (.int l), some (.int g), none, none, none, none, none, none, none, none, none, none] S0 = .ret (.loc w) S4 := by
  subst hw
  have h3 : -4611686018427387904 ≤ n ∧ n < 4611686018427387904 := by omega
  have h2' : S1 ++ [O.lst L, O.lst [.int 0, .int 1, .int 2]] = S2 := by rw [← h2]; simp
  generalize hN : n.toNat = N at *
  simp [m_law_wider_rows, hq, e1, e2, hq1, h2', e3, h3, hN, e4, sizeLine_eq]
theorem wider_rows_eq {p : Par} {ns : List Int} {J : Sto} {l pp r s : Int} {q : Nat} {trs : List Tr} (hl : p.D + l = p.L) (hq : ∀ p r s, (dst ns p r s ++ J)[q]? = some (.lst (trs.map trD))) (hnd : (trs.map fun t => kp (kT t)).Nodup) (hall : ∀ f s, Vd p f s → (f, s) ∈ trs.map kT) (hp : 0 ≤ pp) (hT : 1 ≤ p.T - p.g) (hb1 : p.T ≤ 24) (hb2 : p.L ≤ 6) (hz : trs.length ≤ 90000) :
    ∃ (trs' : List Tr) (pp' r' s' : Int), 0 ≤ pp' ∧ trs.length ≤ trs'.length ∧ trs'.length ≤ trs.length + 2 ∧ f_law_wider_rows [.loc 1, .loc q, .int p.T, .int p.D, .int l, .int p.g] (dst ns pp r s ++ J) = .ok (.loc (2 + J.length)) (dst ns pp' r' s' ++ (J ++ [O.lst (trs'.map trD)])) := by
  have e1 := lframes_eq p.T p.D l (dst ns pp r s ++ J)
  rw [hl] at e1
  have hb := barT_map trs [] (by simpa using hnd)
  rw [List.nil_append] at hb
  have e2 := (lbt_tup (xs := trs.map trD) (S := dst ns pp r s ++ J) (fun x hx => by
    obtain ⟨t, _, rfl⟩ := List.mem_map.mp hx
    exact ⟨rfl, fun ys h => by cases h; simp⟩) (by rw [List.length_map]; omega)).1 _ hb
  have hlen : (dst ns pp r s ++ J).length = 2 + J.length := by simp
  rw [hlen] at e2
  have hW : Wi p (trs.map trK) trs := by
    refine ⟨rfl, hnd, fun f s hv => ?_⟩
    obtain ⟨t, ht, e⟩ := List.mem_map.mp (hall f s hv)
    have : valD (trs.map trK) (kp (f, s)) = some (.int t.2.2) := val_mem (by rw [List.map_map]; exact hnd) (by rw [← e]; exact List.mem_map.mpr ⟨t, ht, rfl⟩)
    unfold tv
    rw [show ([Sum.inl f, Sum.inl s] : List Key) = kp (f, s) from rfl, this]; rfl
  obtain ⟨n, p1, r1, s1, hn, hp1, e3⟩ := pickI_eq ns pp r s (J ++ [O.dT (trs.map trK), O.lst (trs.map trD)]) [0, 1, 2] (by simp) (by simp) hp
  have hn' : 0 ≤ n ∧ n ≤ 2 := by
    simp only [List.mem_cons, List.not_mem_nil, or_false] at hn
    omega
  obtain ⟨kvs', trs', J'', pp', r', s', t', a', b', c', e', x', y', e4, h1, h2, h3, h4⟩ := wi_turns (ns := ns) (J := J) (J' := [O.lst [.int 0, .int 1, .int 2]]) (r := r1) (s := s1) (rows := some (.loc q)) n.toNat (by omega) hl hW hp1 hT hb1 hb2 hz
  have e3' : f_law_pick [.loc 1, .loc (2 + J.length + 1 + 1)] (dst ns pp r s ++ (J ++ O.dT (trs.map trK) :: O.lst (trs.map trD) :: [O.lst [.int 0, .int 1, .int 2]])) = .ok (.int n) (dst ns p1 r1 s1 ++ (J ++ O.dT (trs.map trK) :: O.lst (trs.map trD) :: [O.lst [.int 0, .int 1, .int 2]])) := by
    have ex : ∀ q1 q2 q3 : Int, dst ns q1 q2 q3 ++ (J ++ [O.dT (trs.map trK), O.lst (trs.map trD)] ++ [O.lst ([0, 1, 2].map D.int)]) = dst ns q1 q2 q3 ++ (J ++ O.dT (trs.map trK) :: O.lst (trs.map trD) :: [O.lst [.int 0, .int 1, .int 2]]) := fun _ _ _ => by simp
    rw [ex, ex] at e3
    have : 2 + (J ++ [O.dT (trs.map trK), O.lst (trs.map trD)]).length = 2 + J.length + 1 + 1 := by simp; omega
    rw [this] at e3
    exact e3
  have em := wr_m (g := p.g) (hq pp r s) e1 e2 (app_get (hq pp r s) _) (w := 2 + J.length + 1) (by simp; omega) (by simp) e3' hn' e4
  have er : ([D.loc 1, D.loc q, D.int p.T, D.int p.D, D.int l, D.int p.g].map some ++ List.replicate (16 - 6) none : Sd) = [some (.loc 1), some (.loc q), some (.int p.T), some (.int p.D), some (.int l), some (.int p.g), none, none, none, none, none, none, none, none, none, none] := rfl
  refine ⟨trs', pp', r', s', h2, h4, by omega, ?_⟩
  unfold f_law_wider_rows runB
  rw [er, em]
  refine trim_dnewk (k := 1) rfl ?_
  simp only [O.und]
  rw [unds_all, List.all_eq_true]
  intro d hd
  obtain ⟨x, _, rfl⟩ := List.mem_map.mp hd
  simp [trD]
end G
set_option linter.all false
set_option maxRecDepth 100000
set_option maxHeartbeats 4000000
namespace G
open PySem PySem.Spec PyProof.Rows L2 FL
variable [KMap]
/-! ### bent rows -/
section
variable {S0 S2 S3 : Sto} {t d l g n k f s u : Int} {q j : Nat} {L : List D}
theorem bent0 (hq : S0[q]? = some (.lst L)) (hn : (L.length : Int) = n) (e1 : f_law_draw [.loc 1, .int n] (S0 ++ [O.lst L]) = .ok (.int k) S2) (hq2 : S2[S0.length]? = some (.lst L)) (hat : atI L k = some (.tup [.int f, .int s, .int u])) (hix : ixN L.length k = some j) (e2 : f_law_draw [.loc 1, .int 8] S2 = .ok (.int 0) S3) (hq3 : S3[S0.length]? = some (.lst L)) :
    m_law_bent_rows [some (.loc 1), some (.loc q), some (.int t), some (.int d), some (.int l), some (.int g), none, none, none, none, none, none, none, none, none] S0 = .ret (.loc S0.length) (S3.set S0.length (.lst (L.set j (trD (f, s, u - 1))))) := by
  simp [m_law_bent_rows, hq, hn, e1, hq2, hat, e2, hq3, hix, sizeLine_eq, trD]
theorem bent1 (hq : S0[q]? = some (.lst L)) (hn : (L.length : Int) = n) (e1 : f_law_draw [.loc 1, .int n] (S0 ++ [O.lst L]) = .ok (.int k) S2) (hq2 : S2[S0.length]? = some (.lst L)) (hat : atI L k = some (.tup [.int f, .int s, .int u])) (hix : ixN L.length k = some j) (e2 : f_law_draw [.loc 1, .int 8] S2 = .ok (.int 1) S3) (hq3 : S3[S0.length]? = some (.lst L)) :
    m_law_bent_rows [some (.loc 1), some (.loc q), some (.int t), some (.int d), some (.int l), some (.int g), none, none, none, none, none, none, none, none, none] S0 = .ret (.loc S0.length) (S3.set S0.length (.lst (L.set j (trD (f, s, u + 1))))) := by
  simp [m_law_bent_rows, hq, hn, e1, hq2, hat, e2, hq3, hix, sizeLine_eq, trD]
theorem bent2 {S4 : Sto} {y : D} (hq : S0[q]? = some (.lst L)) (hn : (L.length : Int) = n) (e1 : f_law_draw [.loc 1, .int n] (S0 ++ [O.lst L]) = .ok (.int k) S2) (hq2 : S2[S0.length]? = some (.lst L)) (hat : atI L k = some (.tup [.int f, .int s, .int u])) (e2 : f_law_draw [.loc 1, .int 8] S2 = .ok (.int 2) S3) (hq3 : S3[S0.length]? = some (.lst L)) (e3 : fPop (.loc S0.length) [.int k] S3 = .ok y S4) :
    m_law_bent_rows [some (.loc 1), some (.loc q), some (.int t), some (.int d), some (.int l), some (.int g), none, none, none, none, none, none, none, none, none] S0 = .ret (.loc S0.length) S4 := by
  generalize hP : fPop = P at e3
  simp [m_law_bent_rows, hq, hn, e1, hq2, hat, e2, hq3, sizeLine_eq, hP, e3]
theorem bent3 {S4 : Sto} {v : Int} (hq : S0[q]? = some (.lst L)) (hn : (L.length : Int) = n) (hz : L.length < 16777216) (e1 : f_law_draw [.loc 1, .int n] (S0 ++ [O.lst L]) = .ok (.int k) S2) (hq2 : S2[S0.length]? = some (.lst L)) (hat : atI L k = some (.tup [.int f, .int s, .int u])) (e2 : f_law_draw [.loc 1, .int 8] S2 = .ok (.int 3) S3) (hq3 : S3[S0.length]? = some (.lst L))
    (e3 : f_law_draw [.loc 1, .int 2] S3 = .ok (.int v) S4) (hq4 : S4[S0.length]? = some (.lst L)) :
    m_law_bent_rows [some (.loc 1), some (.loc q), some (.int t), some (.int d), some (.int l), some (.int g), none, none, none, none, none, none, none, none, none] S0 = .ret (.loc S0.length) (S4.set S0.length (.lst (L ++ [trD (f, s, u + v)]))) := by
  simp [m_law_bent_rows, hq, hn, e1, hq2, hat, e2, hq3, e3, hq4, hz, sizeLine_eq, trD]
theorem bent4 {S4 : Sto} {v : Int} (hq : S0[q]? = some (.lst L)) (hn : (L.length : Int) = n) (e1 : f_law_draw [.loc 1, .int n] (S0 ++ [O.lst L]) = .ok (.int k) S2) (hq2 : S2[S0.length]? = some (.lst L)) (hat : atI L k = some (.tup [.int f, .int s, .int u])) (hix : ixN L.length k = some j) (e2 : f_law_draw [.loc 1, .int 8] S2 = .ok (.int 4) S3) (hq3 : S3[S0.length]? = some (.lst L))
    (e3 : f_law_pick [.loc 1, .loc S3.length] (S3 ++ [O.lst [.int 1, .int (-1)]]) = .ok (.int v) S4) (hq4 : S4[S0.length]? = some (.lst L)) :
    m_law_bent_rows [some (.loc 1), some (.loc q), some (.int t), some (.int d), some (.int l), some (.int g), none, none, none, none, none, none, none, none, none] S0 = .ret (.loc S0.length) (S4.set S0.length (.lst (L.set j (trD (f + v, s, u))))) := by
  simp [m_law_bent_rows, hq, hn, e1, hq2, hat, e2, hq3, e3, hq4, hix, sizeLine_eq, trD]
theorem bent5 {S4 : Sto} {v : Int} (hq : S0[q]? = some (.lst L)) (hn : (L.length : Int) = n) (e1 : f_law_draw [.loc 1, .int n] (S0 ++ [O.lst L]) = .ok (.int k) S2) (hq2 : S2[S0.length]? = some (.lst L)) (hat : atI L k = some (.tup [.int f, .int s, .int u])) (hix : ixN L.length k = some j) (e2 : f_law_draw [.loc 1, .int 8] S2 = .ok (.int 5) S3) (hq3 : S3[S0.length]? = some (.lst L))
    (e3 : f_law_pick [.loc 1, .loc S3.length] (S3 ++ [O.lst [.int 1, .int (-1)]]) = .ok (.int v) S4) (hq4 : S4[S0.length]? = some (.lst L)) :
    m_law_bent_rows [some (.loc 1), some (.loc q), some (.int t), some (.int d), some (.int l), some (.int g), none, none, none, none, none, none, none, none, none] S0 = .ret (.loc S0.length) (S4.set S0.length (.lst (L.set j (trD (f, s + v, u))))) := by
  simp [m_law_bent_rows, hq, hn, e1, hq2, hat, e2, hq3, e3, hq4, hix, sizeLine_eq, trD]
theorem bent6 {S4 S5 : Sto} {o a2 b2 c2 a3 b3 c3 : Int} {j2 : Nat} {L1 : List D} (hq : S0[q]? = some (.lst L)) (hn : (L.length : Int) = n) (e1 : f_law_draw [.loc 1, .int n] (S0 ++ [O.lst L]) = .ok (.int k) S2) (hq2 : S2[S0.length]? = some (.lst L)) (hat : atI L k = some (.tup [.int f, .int s, .int u])) (hix : ixN L.length k = some j) (e2 : f_law_draw [.loc 1, .int 8] S2 = .ok (.int 6) S3) (hq3 : S3[S0.length]? = some (.lst L))
    (e3 : f_law_draw [.loc 1, .int n] S3 = .ok (.int o) S4) (hq4 : S4[S0.length]? = some (.lst L)) (hat2 : atI L o = some (.tup [.int a2, .int b2, .int c2])) (h5 : S4.set S0.length (.lst (L.set j (.tup [.int f, .int s, .int c2]))) = S5) (hq5 : S5[S0.length]? = some (.lst L1)) (hat3 : atI L1 o = some (.tup [.int a3, .int b3, .int c3])) (hix2 : ixN L1.length o = some j2) :
    m_law_bent_rows [some (.loc 1), some (.loc q), some (.int t), some (.int d), some (.int l), some (.int g), none, none, none, none, none, none, none, none, none] S0 = .ret (.loc S0.length) (S5.set S0.length (.lst (L1.set j2 (trD (a3, b3, u))))) := by
  have i0 : ∀ a b c : D, atI [a, b, c] 0 = some a := fun _ _ _ => rfl
  have i1 : ∀ a b c : D, atI [a, b, c] 1 = some b := fun _ _ _ => rfl
  have i2 : ∀ a b c : D, atI [a, b, c] 2 = some c := fun _ _ _ => rfl
  simp [m_law_bent_rows, hq, hn, e1, hq2, hat, e2, hq3, e3, hq4, hix, hat2, h5, hq5, hat3, hix2, i0, i1, i2, sizeLine_eq, trD]
theorem bent7 {S4 S5 : Sto} {fr : Int} {y : D} (hq : S0[q]? = some (.lst L)) (hn : (L.length : Int) = n) (hz : L.length < 16777216) (e1 : f_law_draw [.loc 1, .int n] (S0 ++ [O.lst L]) = .ok (.int k) S2) (hq2 : S2[S0.length]? = some (.lst L)) (hat : atI L k = some (.tup [.int f, .int s, .int u])) (e2 : f_law_draw [.loc 1, .int 8] S2 = .ok (.int 7) S3) (hq3 : S3[S0.length]? = some (.lst L))
    (e3 : f_law_frames [.int t, .int d, .int l] S3 = .ok (.int fr) S3) (e4 : f_law_pick [.loc 1, .loc S3.length] (S3 ++ [O.lst [trD (fr, s, 999), trD (f, f, 999), trD (-1, -1, 999), trD (f, -2, 999), trD (t - g, t - 1 - g, 999)]]) = .ok y S5) (hq5 : S5[S0.length]? = some (.lst L)) :
    m_law_bent_rows [some (.loc 1), some (.loc q), some (.int t), some (.int d), some (.int l), some (.int g), none, none, none, none, none, none, none, none, none] S0 = .ret (.loc S0.length) (S5.set S0.length (.lst (L ++ [y]))) := by
  have hq4 := app_get hq3 [O.lst [trD (fr, s, 999), trD (f, f, 999), trD (-1, -1, 999), trD (f, -2, 999), trD (t - g, t - 1 - g, 999)]]
  simp [trD] at e4
  simp only [trD] at hq4
  simp [m_law_bent_rows, hq, hn, e1, hq2, hat, e2, hq3, hq4, e3, e4, hq5, hz, sizeLine_eq]
end
end G
set_option linter.all false
set_option maxRecDepth 100000
set_option maxHeartbeats 4000000
namespace G
open PySem PySem.Spec PyProof.Rows L2 FL
variable [KMap]
/-- rows that may be asked -/
def AllR (L : List D) : Prop := ∀ x ∈ L, RwD x ∧ ∀ k, x.und k = true
theorem rw_trD (t : Tr) : RwD (trD t) ∧ ∀ k, (trD t).und k = true := ⟨⟨rfl, fun ys h => by cases h; simp⟩, fun k => by simp [trD]⟩
theorem allR_trs (ts : List Tr) : AllR (ts.map trD) := fun x hx => by
  obtain ⟨t, _, rfl⟩ := List.mem_map.mp hx
  exact rw_trD t
theorem AllR.set {L : List D} (h : AllR L) (j : Nat) {y : D} (hy : RwD y ∧ ∀ k, y.und k = true) : AllR (L.set j y) := fun x hx => by
  rcases List.mem_or_eq_of_mem_set hx with hx | rfl
  · exact h x hx
  · exact hy
theorem AllR.snoc {L : List D} (h : AllR L) {y : D} (hy : RwD y ∧ ∀ k, y.und k = true) : AllR (L ++ [y]) := fun x hx => by
  rcases List.mem_append.mp hx with hx | hx
  · exact h x hx
  · rw [List.mem_singleton.mp hx]; exact hy
theorem AllR.sub {L L' : List D} (h : AllR L) (hs : ∀ x ∈ L', x ∈ L) : AllR L' := fun x hx => h x (hs x hx)
theorem AllR.und {L : List D} (h : AllR L) (k : Nat) : (O.lst L).und k = true := by
  simp only [O.und]
  rw [unds_all, List.all_eq_true]
  exact fun x hx => (h x hx).2 k
theorem atI_ok {L : List D} {k : Int} (h0 : 0 ≤ k) (h1 : k < L.length) : atI L k = L[k.toNat]? ∧ ixN L.length k = some k.toNat := by
  have : ixN L.length k = some k.toNat := by
    simp only [ixN]
    rw [if_pos h0, if_pos (by omega)]
  exact ⟨by simp only [atI, this]; rfl, this⟩
theorem at_trs {ts : List Tr} {k : Int} (h0 : 0 ≤ k) (h1 : k < (ts.map trD).length) : ∃ t, atI (ts.map trD) k = some (trD t) := by
  have hk : k.toNat < ts.length := by rw [List.length_map] at h1; omega
  refine ⟨ts[k.toNat], ?_⟩
  rw [(atI_ok h0 h1).1, List.getElem?_map, List.getElem?_eq_getElem hk]; rfl
theorem bent_eq {ns : List Int} {J : Sto} {t d l g pp r s : Int} {q : Nat} {ts : List Tr} (hq : ∀ p r s, (dst ns p r s ++ J)[q]? = some (.lst (ts.map trD))) (hp : 0 ≤ pp) (h0 : 0 < ts.length) (hz : ts.length ≤ 90000) :
    ∃ (L' : List D) (pp' r' s' : Int), 0 ≤ pp' ∧ AllR L' ∧ L'.length ≤ ts.length + 1 ∧ f_law_bent_rows [.loc 1, .loc q, .int t, .int d, .int l, .int g] (dst ns pp r s ++ J) = .ok (.loc (2 + J.length)) (dst ns pp' r' s' ++ (J ++ [O.lst L'])) := by
  obtain ⟨L, hL⟩ : ∃ L, L = ts.map trD := ⟨_, rfl⟩
  have hLl : L.length = ts.length := by rw [hL, List.length_map]
  have hA : AllR L := by rw [hL]; exact allR_trs ts
  rw [← hL] at hq
  obtain ⟨k, p1, r1, s1, k0, k1, hp1, e1⟩ := draw_eq ns pp r s (J ++ [O.lst L]) L.length (by omega) (by omega) hp
  obtain ⟨way, p2, r2, s2, w0, w1, hp2, e2⟩ := draw_eq ns p1 r1 s1 (J ++ [O.lst L]) 8 (by omega) (by omega) hp1
  obtain ⟨tt, hat⟩ := at_trs (ts := ts) (k := k) k0 (by rw [← hL]; exact k1)
  rw [← hL] at hat
  obtain ⟨f, s0, u⟩ := tt
  have hix := (atI_ok k0 k1).2
  have hl0 : (dst ns pp r s ++ J).length = 2 + J.length := by simp
  have e1' : f_law_draw [.loc 1, .int (L.length : Int)] ((dst ns pp r s ++ J) ++ [O.lst L]) = .ok (.int k) (dst ns p1 r1 s1 ++ (J ++ [O.lst L])) := by rw [List.append_assoc]; exact e1
  have hg2 : ∀ a b c : Int, (dst ns a b c ++ (J ++ [O.lst L]))[(dst ns pp r s ++ J).length]? = some (.lst L) := fun a b c => by rw [hl0]; exact dget
  have hg3 : ∀ (a b c : Int) (J' : Sto), (dst ns a b c ++ (J ++ O.lst L :: J'))[(dst ns pp r s ++ J).length]? = some (.lst L) := fun a b c J' => by rw [hl0]; exact dget
  have er : ([D.loc 1, D.loc q, D.int t, D.int d, D.int l, D.int g].map some ++ List.replicate (15 - 6) none : Sd) = [some (.loc 1), some (.loc q), some (.int t), some (.int d), some (.int l), some (.int g), none, none, none, none, none, none, none, none, none] := rfl
  have fin : ∀ {L' : List D} {a b c : Int} {J' : Sto}, 0 ≤ a → AllR L' → L'.length ≤ ts.length + 1 →
      m_law_bent_rows [some (.loc 1), some (.loc q), some (.int t), some (.int d), some (.int l), some (.int g), none, none, none, none, none, none, none, none, none] (dst ns pp r s ++ J) = .ret (.loc (dst ns pp r s ++ J).length) (dst ns a b c ++ (J ++ O.lst L' :: J')) →
      ∃ (L' : List D) (pp' r' s' : Int), 0 ≤ pp' ∧ AllR L' ∧ L'.length ≤ ts.length + 1 ∧ f_law_bent_rows [.loc 1, .loc q, .int t, .int d, .int l, .int g] (dst ns pp r s ++ J) = .ok (.loc (2 + J.length)) (dst ns pp' r' s' ++ (J ++ [O.lst L'])) := fun {L' a b c J'} h1 h2 h3 h4 => by
    refine ⟨L', a, b, c, h1, h2, h3, ?_⟩
    unfold f_law_bent_rows runB
    rw [er, h4, hl0]
    exact trim_dnew (h2.und _)
  have hsL : ∀ (j : Nat) (y : D), (L.set j y).length ≤ ts.length + 1 := fun j y => by rw [List.length_set]; omega
  have setJ : ∀ (a b c : Int) (o' : O) (J' : Sto) (o : O), (dst ns a b c ++ (J ++ o :: J')).set (dst ns pp r s ++ J).length o' = dst ns a b c ++ (J ++ o' :: J') := fun a b c o' J' o => by rw [hl0]; exact dset
  have hc : way = 0 ∨ way = 1 ∨ way = 2 ∨ way = 3 ∨ way = 4 ∨ way = 5 ∨ way = 6 ∨ way = 7 := by omega
  rcases hc with rfl | rfl | rfl | rfl | rfl | rfl | rfl | rfl
  · have em := bent0 (t := t) (d := d) (l := l) (g := g) (hq pp r s) rfl e1' (hg2 _ _ _) hat hix e2 (hg2 _ _ _)
    rw [setJ] at em
    exact fin hp2 (hA.set _ (rw_trD _)) (hsL _ _) em
  · have em := bent1 (t := t) (d := d) (l := l) (g := g) (hq pp r s) rfl e1' (hg2 _ _ _) hat hix e2 (hg2 _ _ _)
    rw [setJ] at em
    exact fin hp2 (hA.set _ (rw_trD _)) (hsL _ _) em
  · have hkk : k.toNat < L.length := by omega
    have e3 : fPop (.loc (dst ns pp r s ++ J).length) [.int k] (dst ns p2 r2 s2 ++ (J ++ [O.lst L])) = .ok L[k.toNat] ((dst ns p2 r2 s2 ++ (J ++ [O.lst L])).set (dst ns pp r s ++ J).length (.lst (L.eraseIdx k.toNat))) := by
      have hsq : seqIndex? k L.length = some k.toNat := seqIndex_of k0 k1
      simp only [fPop, hg2]
      rw [if_pos (by omega)]
      simp only [hsq, List.getElem?_eq_getElem hkk]
    rw [setJ] at e3
    have em := bent2 (t := t) (d := d) (l := l) (g := g) (hq pp r s) rfl e1' (hg2 _ _ _) hat e2 (hg2 _ _ _) e3
    exact fin hp2 (hA.sub fun x hx => List.mem_of_mem_eraseIdx hx) (by have := List.length_eraseIdx_le L k.toNat; omega) em
  · obtain ⟨v, p3, r3, s3, v0, v1, hp3, e3⟩ := draw_eq ns p2 r2 s2 (J ++ [O.lst L]) 2 (by omega) (by omega) hp2
    have em := bent3 (t := t) (d := d) (l := l) (g := g) (hq pp r s) rfl (by omega) e1' (hg2 _ _ _) hat e2 (hg2 _ _ _) e3 (hg2 _ _ _)
    rw [setJ] at em
    exact fin hp3 (hA.snoc (rw_trD _)) (by rw [List.length_append, List.length_singleton]; omega) em
  · obtain ⟨v, p3, r3, s3, hv, hp3, e3⟩ := pickI_eq ns p2 r2 s2 (J ++ [O.lst L]) [1, -1] (by simp) (by simp) hp2
    have e3' : f_law_pick [.loc 1, .loc (dst ns p2 r2 s2 ++ (J ++ [O.lst L])).length] ((dst ns p2 r2 s2 ++ (J ++ [O.lst L])) ++ [O.lst [.int 1, .int (-1)]]) = .ok (.int v) (dst ns p3 r3 s3 ++ (J ++ O.lst L :: [O.lst [.int 1, .int (-1)]])) := by
      have h1 : (dst ns p2 r2 s2 ++ (J ++ [O.lst L])).length = 2 + (J ++ [O.lst L]).length := by simp <;> omega
      simp only [List.map_cons, List.map_nil] at e3
      rw [h1, List.append_assoc, e3]
      simp
    have em := bent4 (t := t) (d := d) (l := l) (g := g) (hq pp r s) rfl e1' (hg2 _ _ _) hat hix e2 (hg2 _ _ _) e3' (hg3 _ _ _ _)
    rw [setJ] at em
    exact fin hp3 (hA.set _ (rw_trD _)) (hsL _ _) em
  · obtain ⟨v, p3, r3, s3, hv, hp3, e3⟩ := pickI_eq ns p2 r2 s2 (J ++ [O.lst L]) [1, -1] (by simp) (by simp) hp2
    have e3' : f_law_pick [.loc 1, .loc (dst ns p2 r2 s2 ++ (J ++ [O.lst L])).length] ((dst ns p2 r2 s2 ++ (J ++ [O.lst L])) ++ [O.lst [.int 1, .int (-1)]]) = .ok (.int v) (dst ns p3 r3 s3 ++ (J ++ O.lst L :: [O.lst [.int 1, .int (-1)]])) := by
      have h1 : (dst ns p2 r2 s2 ++ (J ++ [O.lst L])).length = 2 + (J ++ [O.lst L]).length := by simp <;> omega
      simp only [List.map_cons, List.map_nil] at e3
      rw [h1, List.append_assoc, e3]
      simp
    have em := bent5 (t := t) (d := d) (l := l) (g := g) (hq pp r s) rfl e1' (hg2 _ _ _) hat hix e2 (hg2 _ _ _) e3' (hg3 _ _ _ _)
    rw [setJ] at em
    exact fin hp3 (hA.set _ (rw_trD _)) (hsL _ _) em
  · obtain ⟨o, p3, r3, s3, o0, o1, hp3, e3⟩ := draw_eq ns p2 r2 s2 (J ++ [O.lst L]) L.length (by omega) (by omega) hp2
    obtain ⟨t2, hat2⟩ := at_trs (ts := ts) (k := o) o0 (by rw [← hL]; exact o1)
    rw [← hL] at hat2
    obtain ⟨a2, b2, c2⟩ := t2
    -- the first of the two stores
    have h1l : (L.set k.toNat (trD (f, s0, c2))).length = L.length := List.length_set ..
    have hat3 : ∃ t3, atI (L.set k.toNat (trD (f, s0, c2))) o = some (trD t3) := by
      rw [(atI_ok o0 (by rw [h1l]; exact o1)).1]
      by_cases hko : k.toNat = o.toNat
      · rw [hko, List.getElem?_set_self (by omega)]; exact ⟨_, rfl⟩
      · rw [List.getElem?_set_ne hko, ← (atI_ok o0 o1).1]; exact ⟨_, hat2⟩
    obtain ⟨t3, hat3⟩ := hat3
    obtain ⟨a3, b3, c3⟩ := t3
    have hix2 := (atI_ok (L := L.set k.toNat (trD (f, s0, c2))) o0 (by rw [h1l]; exact o1)).2
    have em := bent6 (t := t) (d := d) (l := l) (g := g) (hq pp r s) rfl e1' (hg2 _ _ _) hat hix e2 (hg2 _ _ _) e3 (hg2 _ _ _) hat2 (setJ _ _ _ _ _ _) (L1 := L.set k.toNat (trD (f, s0, c2))) (by rw [hl0]; exact dget) hat3 hix2
    rw [setJ] at em
    exact fin hp3 ((hA.set _ (rw_trD _)).set _ (rw_trD _)) (by rw [List.length_set]; exact hsL _ _) em
  · have e3 := lframes_eq t d l (dst ns p2 r2 s2 ++ (J ++ [O.lst L]))
    obtain ⟨y, p3, r3, s3, hy, hp3, e4⟩ := pick_eq ns p2 r2 s2 (J ++ [O.lst L]) [trD (t + (3 * (d + l) + 3), s0, 999), trD (f, f, 999), trD (-1, -1, 999), trD (f, -2, 999), trD (t - g, t - 1 - g, 999)] (by simp) (by simp) hp2 (fun x hx => by
      simp only [List.mem_cons, List.not_mem_nil, or_false] at hx
      rcases hx with rfl | rfl | rfl | rfl | rfl <;> exact (rw_trD _).2 _)
    have hyR : RwD y ∧ ∀ k, y.und k = true := by
      simp only [List.mem_cons, List.not_mem_nil, or_false] at hy
      rcases hy with rfl | rfl | rfl | rfl | rfl <;> exact rw_trD _
    have e4' : f_law_pick [.loc 1, .loc (dst ns p2 r2 s2 ++ (J ++ [O.lst L])).length] ((dst ns p2 r2 s2 ++ (J ++ [O.lst L])) ++ [O.lst [trD (t + (3 * (d + l) + 3), s0, 999), trD (f, f, 999), trD (-1, -1, 999), trD (f, -2, 999), trD (t - g, t - 1 - g, 999)]]) = .ok y (dst ns p3 r3 s3 ++ (J ++ O.lst L :: [O.lst [trD (t + (3 * (d + l) + 3), s0, 999), trD (f, f, 999), trD (-1, -1, 999), trD (f, -2, 999), trD (t - g, t - 1 - g, 999)]])) := by
      have h1 : (dst ns p2 r2 s2 ++ (J ++ [O.lst L])).length = 2 + (J ++ [O.lst L]).length := by simp <;> omega
      rw [h1, List.append_assoc, e4]
      simp
    have em := bent7 (S4 := []) (t := t) (d := d) (l := l) (g := g) (hq pp r s) rfl (by omega) e1' (hg2 _ _ _) hat e2 (hg2 _ _ _) e3 e4' (hg3 _ _ _ _)
    rw [setJ] at em
    exact fin hp3 (hA.snoc hyR) (by rw [List.length_append, List.length_singleton]; omega) em
end G
set_option linter.all false
set_option maxRecDepth 100000
set_option maxHeartbeats 4000000
namespace G
open PySem PySem.Spec PyProof.Rows L2 FL
variable [KMap]
/-! ### odd rows, shuffled rows -/
def oddL (f s u : Int) : List D := [.tup [.int f, .int s], .tup [.int f, .int s, .int u, .int 0], .tup [.int f, .int s, .non], .tup [.int f, .str ("0" : Str), .int u], .non, .str ("row" : Str), .int u, .tup [.tup [.int f, .int s], .int u, .int 0]]
theorem odd_m {S0 S2 S4 : Sto} {n k f s u : Int} {q : Nat} {L : List D} {y : D} (hq : S0[q]? = some (.lst L)) (hn : (L.length : Int) = n) (hz : L.length < 16777216) (hk : 0 ≤ k ∧ k < 9223372036854775808) (e1 : f_law_draw [.loc 1, .int n] (S0 ++ [O.lst L]) = .ok (.int k) S2) (hq2 : S2[S0.length]? = some (.lst L)) (hat : atI L k = some (.tup [.int f, .int s, .int u]))
    (e2 : f_law_pick [.loc 1, .loc S2.length] (S2 ++ [O.lst (oddL f s u)]) = .ok y S4) (hq4 : S4[S0.length]? = some (.lst L)) :
    m_law_odd_rows [some (.loc 1), some (.loc q), none, none, none, none, none, none] S0 = .ret (.loc S0.length) (S4.set S0.length (.lst (L.take k.toNat ++ [y] ++ L.drop k.toNat))) := by
  have hq3 := app_get hq2 [O.lst (oddL f s u)]
  generalize hT : L.take k.toNat ++ [y] ++ L.drop k.toNat = L' at *
  have hins : fIns (.loc S0.length) [.int k, y] S4 = .ok .non (S4.set S0.length (.lst L')) := by
    rw [← hT]
    simp only [fIns, hq4, sizeLine_eq]
    rw [if_pos (by omega)]
  generalize hF : fIns = F at hins
  unfold oddL at e2 hq3
  simp [m_law_odd_rows, hq, hn, e1, hq2, hat, hq3, e2, hF, hins, hq4, sizeLine_eq]
theorem odd_eq {ns : List Int} {J : Sto} {pp r s : Int} {q : Nat} {ts : List Tr} (hq : ∀ p r s, (dst ns p r s ++ J)[q]? = some (.lst (ts.map trD))) (hp : 0 ≤ pp) (h0 : 0 < ts.length) (hz : ts.length ≤ 90000) :
    ∃ (L' : List D) (pp' r' s' : Int), 0 ≤ pp' ∧ AllR L' ∧ L'.length ≤ ts.length + 1 ∧ f_law_odd_rows [.loc 1, .loc q] (dst ns pp r s ++ J) = .ok (.loc (2 + J.length)) (dst ns pp' r' s' ++ (J ++ [O.lst L'])) := by
  obtain ⟨L, hL⟩ : ∃ L, L = ts.map trD := ⟨_, rfl⟩
  have hLl : L.length = ts.length := by rw [hL, List.length_map]
  have hA : AllR L := by rw [hL]; exact allR_trs ts
  rw [← hL] at hq
  obtain ⟨k, p1, r1, s1, k0, k1, hp1, e1⟩ := draw_eq ns pp r s (J ++ [O.lst L]) L.length (by omega) (by omega) hp
  obtain ⟨tt, hat⟩ := at_trs (ts := ts) (k := k) k0 (by rw [← hL]; exact k1)
  rw [← hL] at hat
  obtain ⟨f, s0, u⟩ := tt
  have hl0 : (dst ns pp r s ++ J).length = 2 + J.length := by simp
  have e1' : f_law_draw [.loc 1, .int (L.length : Int)] ((dst ns pp r s ++ J) ++ [O.lst L]) = .ok (.int k) (dst ns p1 r1 s1 ++ (J ++ [O.lst L])) := by rw [List.append_assoc]; exact e1
  have hodd : ∀ x ∈ oddL f s0 u, RwD x ∧ ∀ k, x.und k = true := fun x hx => by
    unfold oddL at hx
    simp only [List.mem_cons, List.not_mem_nil, or_false] at hx
    rcases hx with rfl | rfl | rfl | rfl | rfl | rfl | rfl | rfl
    all_goals refine ⟨⟨rfl, fun ys h => by cases h <;> simp⟩, fun k => by simp⟩
  obtain ⟨y, p2, r2, s2, hy, hp2, e2⟩ := pick_eq ns p1 r1 s1 (J ++ [O.lst L]) (oddL f s0 u) (by simp [oddL]) (by simp [oddL]) hp1 (fun x hx => (hodd x hx).2 _)
  have e2' : f_law_pick [.loc 1, .loc (dst ns p1 r1 s1 ++ (J ++ [O.lst L])).length] ((dst ns p1 r1 s1 ++ (J ++ [O.lst L])) ++ [O.lst (oddL f s0 u)]) = .ok y (dst ns p2 r2 s2 ++ (J ++ O.lst L :: [O.lst (oddL f s0 u)])) := by
    have h1 : (dst ns p1 r1 s1 ++ (J ++ [O.lst L])).length = 2 + (J ++ [O.lst L]).length := by simp <;> omega
    rw [h1, List.append_assoc, e2]
    simp
  have em := odd_m (hq pp r s) rfl (by omega) (by omega) e1' (by rw [hl0]; exact dget) hat e2' (by rw [hl0]; exact dget)
  rw [hl0, dset] at em
  have hA' : AllR (L.take k.toNat ++ [y] ++ L.drop k.toNat) := fun x hx => by
    rcases List.mem_append.mp hx with hx | hx
    · rcases List.mem_append.mp hx with hx | hx
      · exact hA x (List.mem_of_mem_take hx)
      · rw [List.mem_singleton.mp hx]; exact hodd y hy
    · exact hA x (List.mem_of_mem_drop hx)
  have er : ([D.loc 1, D.loc q].map some ++ List.replicate (8 - 2) none : Sd) = [some (.loc 1), some (.loc q), none, none, none, none, none, none] := rfl
  refine ⟨_, p2, r2, s2, hp2, hA', by simp; omega, ?_⟩
  unfold f_law_odd_rows runB
  rw [er, em]
  exact trim_dnew (hA'.und _)
theorem sh_b1 {S S1 S2 : Sto} {n k : Int} {row kk : Option D} {w : Nat} {L F : List D} {y : D} (hw : S[w]? = some (.lst L)) (hn : (L.length : Int) = n) (e1 : f_law_draw [.loc 1, .int n] S = .ok (.int k) S1) (hw1 : S1[w]? = some (.lst L)) (hf : S[w + 1]? = some (.lst F))
    (e2 : fPop (.loc w) [.int k] S1 = .ok y S2) (hf2 : S2[w + 1]? = some (.lst F)) (hz : F.length < 16777216) :
    m_law_shuffled_b1 [some (.loc 1), row, some (.loc w), some (.loc (w + 1)), kk] S = .nx [some (.loc 1), row, some (.loc w), some (.loc (w + 1)), kk] (S2.set (w + 1) (.lst (F ++ [y]))) := by
  generalize hP : fPop = P at e2
  simp [m_law_shuffled_b1, hw, hn, e1, hw1, hf, hP, e2, hf2, hz, sizeLine_eq]
theorem sh_turns {ns : List Int} {J : Sto} {pp r s : Int} {L : List D} {row : Option D} (hp : 0 ≤ pp) (hz : L.length ≤ 100000) :
    ∃ (L' : List D) (kk : Option D) (pp' r' s' : Int), forL (.its (rgD 0 L.length)) (gN 4) m_law_shuffled_b1 (rgD 0 L.length) [some (.loc 1), row, some (.loc (2 + J.length)), some (.loc (2 + J.length + 1)), none] (dst ns pp r s ++ (J ++ [O.lst L, O.lst []])) =
      .nx [some (.loc 1), row, some (.loc (2 + J.length)), some (.loc (2 + J.length + 1)), kk] (dst ns pp' r' s' ++ (J ++ [O.lst [], O.lst L'])) ∧ L'.length = L.length ∧ (∀ x ∈ L', x ∈ L) ∧ 0 ≤ pp' := by
  have h := for_rg (lo := 0) (n := L.length) (g := gN 4) (b := m_law_shuffled_b1) (σ := [some (.loc 1), row, some (.loc (2 + J.length)), some (.loc (2 + J.length + 1)), none]) (S := dst ns pp r s ++ (J ++ [O.lst L, O.lst []]))
    (fun i σ S' => ∃ (A B : List D) (kk : Option D) (pp' r' s' : Int), σ = [some (.loc 1), row, some (.loc (2 + J.length)), some (.loc (2 + J.length + 1)), kk] ∧ S' = dst ns pp' r' s' ++ (J ++ [O.lst A, O.lst B]) ∧ A.length + i = L.length ∧ B.length = i ∧ (∀ x ∈ A, x ∈ L) ∧ (∀ x ∈ B, x ∈ L) ∧ 0 ≤ pp')
    ⟨L, [], none, pp, r, s, rfl, rfl, rfl, rfl, fun _ h => h, (fun _ h => by cases h), hp⟩ (by
      intro i σ S' hi hh
      obtain ⟨A, B, kk, p1, r1, s1, rfl, rfl, h1, h2, h3, h4, h5⟩ := hh
      obtain ⟨k, p2, r2, s2, k0, k1, hp2, e1⟩ := draw_eq ns p1 r1 s1 (J ++ [O.lst A, O.lst B]) A.length (by omega) (by omega) h5
      have hkk : k.toNat < A.length := by omega
      have e2 : fPop (.loc (2 + J.length)) [.int k] (dst ns p2 r2 s2 ++ (J ++ [O.lst A, O.lst B])) = .ok A[k.toNat] (dst ns p2 r2 s2 ++ (J ++ [O.lst (A.eraseIdx k.toNat), O.lst B])) := by
        have hsq : seqIndex? k A.length = some k.toNat := seqIndex_of k0 k1
        have hg : (dst ns p2 r2 s2 ++ (J ++ [O.lst A, O.lst B]))[2 + J.length]? = some (.lst A) := dget
        simp only [fPop, hg]
        rw [if_pos (by omega)]
        simp only [hsq, List.getElem?_eq_getElem hkk]
        rw [dset]
      have e := sh_b1 (row := row) (kk := some (.int (0 + (i : Int)))) (F := B) dget rfl e1 dget dget1 e2 dget1 (by omega)
      rw [dset1] at e
      refine ⟨_, _, .inl (nx_of e), A.eraseIdx k.toNat, B ++ [A[k.toNat]], _, p2, r2, s2, rfl, rfl, ?_, ?_, ?_, ?_, hp2⟩
      · rw [List.length_eraseIdx_of_lt hkk]; omega
      · rw [List.length_append, h2]; rfl
      · exact fun x hx => h3 x (List.mem_of_mem_eraseIdx hx)
      · intro x hx
        rcases List.mem_append.mp hx with hx | hx
        · exact h4 x hx
        · rw [List.mem_singleton.mp hx]; exact h3 _ (List.getElem_mem hkk))
  obtain ⟨σ', S', e, A, B, kk, p1, r1, s1, rfl, rfl, h1, h2, h3, h4, h5⟩ := h
  have hA : A = [] := List.length_eq_zero_iff.mp (by omega)
  subst hA
  exact ⟨B, kk, p1, r1, s1, e, h2, h4, h5⟩
theorem sh_m {S S3 : Sto} {n : Int} {q : Nat} {L : List D} {kk : Option D} (hq : S[q]? = some (.lst L)) (hn : (L.length : Int) = n) (hb : 0 ≤ n ∧ n ≤ 100000)
    (e : forL (.its (rgD 0 n.toNat)) (gN 4) m_law_shuffled_b1 (rgD 0 n.toNat) [some (.loc 1), some (.loc q), some (.loc S.length), some (.loc (S.length + 1)), none] (S ++ [O.lst L, O.lst []]) = .nx [some (.loc 1), some (.loc q), some (.loc S.length), some (.loc (S.length + 1)), kk] S3) :
    m_law_shuffled [some (.loc 1), some (.loc q), none, none, none] S = .ret (.loc (S.length + 1)) S3 := by
  have h3 : -4611686018427387904 ≤ n ∧ n < 4611686018427387904 := by omega
  have hg : (S ++ [O.lst L, O.lst []])[S.length]? = some (.lst L) := by simp
  generalize hN : n.toNat = N at *
  simp [m_law_shuffled, hq, hg, hn, h3, hN, e, sizeLine_eq]
theorem shuffled_eq {ns : List Int} {J : Sto} {pp r s : Int} {q : Nat} {L : List D} (hq : ∀ p r s, (dst ns p r s ++ J)[q]? = some (.lst L)) (hp : 0 ≤ pp) (hz : L.length ≤ 100000) (hA : AllR L) :
    ∃ (L' : List D) (pp' r' s' : Int), 0 ≤ pp' ∧ AllR L' ∧ L'.length = L.length ∧ f_law_shuffled [.loc 1, .loc q] (dst ns pp r s ++ J) = .ok (.loc (2 + J.length)) (dst ns pp' r' s' ++ (J ++ [O.lst L'])) := by
  obtain ⟨L', kk, p1, r1, s1, e, h1, h2, h3⟩ := sh_turns (ns := ns) (J := J) (r := r) (s := s) (row := some (.loc q)) hp hz
  have hl0 : (dst ns pp r s ++ J).length = 2 + J.length := by simp
  have hN : ((L.length : Int)).toNat = L.length := by omega
  have em := sh_m (hq pp r s) rfl (by omega) (kk := kk) (S3 := dst ns p1 r1 s1 ++ (J ++ [O.lst [], O.lst L'])) (by rw [hN, hl0, List.append_assoc]; exact e)
  have er : ([D.loc 1, D.loc q].map some ++ List.replicate (5 - 2) none : Sd) = [some (.loc 1), some (.loc q), none, none, none] := rfl
  refine ⟨L', p1, r1, s1, h3, hA.sub h2, h1, ?_⟩
  unfold f_law_shuffled runB
  rw [er, em, hl0]
  exact trim_dnewk (k := 1) rfl ((hA.sub h2).und _)
end G
set_option linter.all false
set_option maxRecDepth 100000
set_option maxHeartbeats 4000000
namespace G
open PySem PySem.Spec PyProof.Rows L2 FL
variable [KMap]
/-! ### one turn -/
theorem judgedZ {p : Par} {S : Sto} {l T0 : Int} {L : List D} (hl : p.D + l = p.L) (hA : AllR L) (hz : L.length ≤ 100000) (hb1 : p.T ≤ 100) (hb2 : p.L ≤ 100) :
    f_law_is_judged [.int p.T, .int p.D, .int l, .int p.g, .int T0, .tup L] S = .ok (.bl true) S :=
  judged_eq hl ⟨rfl, rfl, fun xs h => by cases h; exact ⟨hz, fun x hx => (hA x hx).1⟩⟩ hb1 hb2
section
variable {S0 S1 S2 S3 S4 S5 S6 : Sto} {t d l g a b T0 way v sh : Int} {m q1 q2 q3 q4 : Nat} {R L4 : List D}
/-- the middle of the turn: the rows are changed, or the total -/
inductive Mid (t d l g : Int) (q2 : Nat) (S3 S4 : Sto) : Int → Int → Int → Nat → Prop
  | bent {way T0 : Int} {q3 : Nat} : way < 4 → f_law_bent_rows [.loc 1, .loc q2, .int t, .int d, .int l, .int g] S3 = .ok (.loc q3) S4 → Mid t d l g q2 S3 S4 way T0 T0 q3
  | less {T0 : Int} : S4 = S3 → Mid t d l g q2 S3 S4 4 T0 (T0 - 1) q2
  | odd {T0 : Int} {q3 : Nat} : f_law_odd_rows [.loc 1, .loc q2] S3 = .ok (.loc q3) S4 → Mid t d l g q2 S3 S4 5 T0 T0 q3
  | more {way T0 v : Int} : 6 ≤ way → f_law_pick [.loc 1, .loc S3.length] (S3 ++ [O.lst [.int 0, .int 0, .int 1, .int 40]]) = .ok (.int v) S4 → Mid t d l g q2 S3 S4 way T0 (T0 + v) q2
theorem ot_m {T1 : Int} (e1 : f_law_right_rows [.loc 1, .loc m, .int t, .int d, .int l, .int g] S0 = .ok (.loc q1) S1) (h1 : S1[q1]? = some (.lst R)) (h2 : atI R 0 = some (.tup [.int a, .int b, .int T0]))
    (e2 : f_law_wider_rows [.loc 1, .loc q1, .int t, .int d, .int l, .int g] S1 = .ok (.loc q2) S2) (e3 : f_law_draw [.loc 1, .int 8] S2 = .ok (.int way) S3) (hm : Mid t d l g q2 S3 S4 way T0 T1 q3)
    (e5 : f_law_draw [.loc 1, .int 2] S4 = .ok (.int sh) S5) (e6 : sh = 0 → f_law_shuffled [.loc 1, .loc q3] S5 = .ok (.loc q4) S6) (e6' : sh ≠ 0 → S6 = S5 ∧ q4 = q3) (h6 : S6[q4]? = some (.lst L4)) (e7 : f_law_is_judged [.int t, .int d, .int l, .int g, .int T1, .tup L4] S6 = .ok (.bl true) S6) :
    m_law_one_turn [some (.loc 1), some (.loc m), some (.int t), some (.int d), some (.int l), some (.int g), none, none, none] S0 = .ret (.bl true) S6 := by
  have i2 : ∀ a b c : D, atI [a, b, c] 2 = some c := fun _ _ _ => rfl
  cases hm with
  | bent hw e4 =>
    by_cases hs : sh = 0
    · have e6 := e6 hs
      subst hs
      simp [m_law_one_turn, e1, h1, h2, i2, e2, e3, hw, e4, e5, e6, h6, e7]
    · obtain ⟨rfl, rfl⟩ := e6' hs
      simp [m_law_one_turn, e1, h1, h2, i2, e2, e3, hw, e4, e5, hs, h6, e7]
  | less e4 =>
    subst e4
    by_cases hs : sh = 0
    · have e6 := e6 hs
      subst hs
      simp [m_law_one_turn, e1, h1, h2, i2, e2, e3, e5, e6, h6, e7]
    · obtain ⟨rfl, rfl⟩ := e6' hs
      simp [m_law_one_turn, e1, h1, h2, i2, e2, e3, e5, hs, h6, e7]
  | odd e4 =>
    by_cases hs : sh = 0
    · have e6 := e6 hs
      subst hs
      simp [m_law_one_turn, e1, h1, h2, i2, e2, e3, e4, e5, e6, h6, e7]
    · obtain ⟨rfl, rfl⟩ := e6' hs
      simp [m_law_one_turn, e1, h1, h2, i2, e2, e3, e4, e5, hs, h6, e7]
  | more hw e4 =>
    have w1 : ¬ way < 4 := by omega
    have w2 : ¬ way = 4 := by omega
    have w3 : ¬ way = 5 := by omega
    by_cases hs : sh = 0
    · have e6 := e6 hs
      subst hs
      simp [m_law_one_turn, e1, h1, h2, i2, e2, e3, w1, w2, w3, e4, e5, e6, h6, e7, sizeLine_eq]
    · obtain ⟨rfl, rfl⟩ := e6' hs
      simp [m_law_one_turn, e1, h1, h2, i2, e2, e3, w1, w2, w3, e4, e5, hs, h6, e7, sizeLine_eq]
end
theorem turn_eq {p : Par} {ns : List Int} {J : Sto} {l pp r s : Int} {m : Nat} {kvs : Tab} {ps : List (Int × Int)} (hl : p.D + l = p.L) (hM : TJ ns J m kvs) (hk : kvs.map (·.1) = ps.map kp) (hnd : ps.Nodup) (hmem : ∀ f s, (f, s) ∈ ps ↔ Vd p f s) (hv : ∀ x ∈ ps, tv kvs x.1 x.2 = some (.int (p.Vf x.1 x.2))) (hb1 : p.T ≤ 24) (hb2 : p.L ≤ 6) (hb3 : p.g ≤ 100) (hp : 0 ≤ pp) (h0 : 0 < ps.length) :
    ∃ pp' r' s', 0 ≤ pp' ∧ f_law_one_turn [.loc 1, .loc m, .int p.T, .int p.D, .int l, .int p.g] (dst ns pp r s ++ J) = .ok (.bl true) (dst ns pp' r' s' ++ J) := by
  have hlen := len_small hnd (fun f s h => (hmem f s).mp h) hb1 hb2
  have hT : 1 ≤ p.T - p.g := by
    obtain ⟨x, hx⟩ := List.exists_mem_of_length_pos h0
    obtain ⟨v1, v2, _, _⟩ := (hmem x.1 x.2).mp hx
    unfold Par.over at v2
    omega
  obtain ⟨num, p1, r1, s1, hp1, e1⟩ := right_rows_eq (r := r) (s := s) hl hM hk hv (by omega) (by omega) hb3 hp
  obtain ⟨trs, htrs⟩ : ∃ trs : List Tr, trs = (sortP ps).map fun x => (x.1, x.2, num x) := ⟨_, rfl⟩
  have hR : (sortP ps).map (fun x => trD (x.1, x.2, num x)) = trs.map trD := by rw [htrs, List.map_map]; rfl
  rw [hR] at e1
  have htl : trs.length = ps.length := by rw [htrs, List.length_map, (sortP_perm ps).length_eq]
  have hkT : trs.map kT = sortP ps := by
    rw [htrs, List.map_map]
    exact List.map_id' _
  have hnd2 : (trs.map fun t => kp (kT t)).Nodup := by
    have : (trs.map fun t => kp (kT t)) = (trs.map kT).map kp := by rw [List.map_map]; rfl
    rw [this, hkT]
    exact List.pairwise_map.mpr (((sortP_perm ps).nodup_iff.mpr hnd).imp fun hab z => hab (kp_inj z))
  obtain ⟨J1, hJ1⟩ : ∃ J1, J1 = J ++ [O.lst (trs.map trD)] := ⟨_, rfl⟩
  rw [← hJ1] at e1
  have hq1 : ∀ a b c : Int, (dst ns a b c ++ J1)[2 + J.length]? = some (.lst (trs.map trD)) := fun a b c => by rw [hJ1]; exact dget
  obtain ⟨trs2, p2, r2, s2, hp2, hg1, hg2, e2⟩ := wider_rows_eq (ns := ns) (J := J1) (pp := p1) (r := r1) (s := s1) (q := 2 + J.length) (trs := trs) hl hq1 hnd2 (fun f s h => by rw [hkT, (sortP_perm ps).mem_iff]; exact (hmem f s).mpr h) hp1 hT hb1 hb2 (by omega)
  obtain ⟨J2, hJ2⟩ : ∃ J2, J2 = J1 ++ [O.lst (trs2.map trD)] := ⟨_, rfl⟩
  rw [← hJ2] at e2
  have hq2 : ∀ a b c : Int, (dst ns a b c ++ J2)[2 + J1.length]? = some (.lst (trs2.map trD)) := fun a b c => by rw [hJ2]; exact dget
  obtain ⟨way, p3, r3, s3, w0, w1, hp3, e3⟩ := draw_eq ns p2 r2 s2 J2 8 (by omega) (by omega) hp2
  -- the first row
  obtain ⟨t0, ht0⟩ := at_trs (ts := trs) (k := 0) (by omega) (by rw [List.length_map]; omega)
  obtain ⟨a0, b0, T0⟩ := t0
  have hA2 := allR_trs trs2
  -- the middle
  have hmid : ∃ (T1 : Int) (q3 : Nat) (p4 r4 s4 : Int) (J4 : Sto) (L3 : List D), Mid p.T p.D l p.g (2 + J1.length) (dst ns p3 r3 s3 ++ J2) (dst ns p4 r4 s4 ++ (J2 ++ J4)) way T0 T1 q3 ∧ 0 ≤ p4 ∧ AllR L3 ∧ L3.length ≤ trs2.length + 1 ∧ ∀ a b c : Int, (dst ns a b c ++ (J2 ++ J4))[q3]? = some (.lst L3) := by
    have hc : way < 4 ∨ way = 4 ∨ way = 5 ∨ 6 ≤ way := by omega
    rcases hc with h | rfl | rfl | h
    · obtain ⟨L', p4, r4, s4, h1, h2, h3, e⟩ := bent_eq (ns := ns) (J := J2) (t := p.T) (d := p.D) (l := l) (g := p.g) (r := r3) (s := s3) hq2 hp3 (by omega) (by omega)
      exact ⟨T0, _, p4, r4, s4, [O.lst L'], L', .bent h e, h1, h2, h3, fun a b c => dget⟩
    · exact ⟨T0 - 1, _, p3, r3, s3, [], trs2.map trD, .less (by simp), hp3, hA2, by simp, fun a b c => by rw [List.append_nil]; exact hq2 a b c⟩
    · obtain ⟨L', p4, r4, s4, h1, h2, h3, e⟩ := odd_eq (ns := ns) (J := J2) (r := r3) (s := s3) hq2 hp3 (by omega) (by omega)
      exact ⟨T0, _, p4, r4, s4, [O.lst L'], L', .odd e, h1, h2, h3, fun a b c => dget⟩
    · obtain ⟨v, p4, r4, s4, hv, hp4, e⟩ := pickI_eq ns p3 r3 s3 J2 [0, 0, 1, 40] (by simp) (by simp) hp3
      refine ⟨T0 + v, _, p4, r4, s4, [O.lst [.int 0, .int 0, .int 1, .int 40]], trs2.map trD, .more h ?_, hp4, hA2, by simp, fun a b c => by rw [← List.append_assoc]; exact app_get (hq2 a b c) _⟩
      have h1 : (dst ns p3 r3 s3 ++ J2).length = 2 + J2.length := by simp
      rw [h1, List.append_assoc]
      exact e
  obtain ⟨T1, q3, p4, r4, s4, J4, L3, hmid, hp4, hA3, hL3, hq3⟩ := hmid
  obtain ⟨sh, p5, r5, s5, _, _, hp5, e5⟩ := draw_eq ns p4 r4 s4 (J2 ++ J4) 2 (by omega) (by omega) hp4
  have fin : ∀ (p6 r6 s6 : Int) (J6 : Sto), 0 ≤ p6 → m_law_one_turn [some (.loc 1), some (.loc m), some (.int p.T), some (.int p.D), some (.int l), some (.int p.g), none, none, none] (dst ns pp r s ++ J) = .ret (.bl true) (dst ns p6 r6 s6 ++ (J2 ++ J6)) →
      ∃ pp' r' s', 0 ≤ pp' ∧ f_law_one_turn [.loc 1, .loc m, .int p.T, .int p.D, .int l, .int p.g] (dst ns pp r s ++ J) = .ok (.bl true) (dst ns pp' r' s' ++ J) := fun p6 r6 s6 J6 h6 em => by
    have er : ([D.loc 1, D.loc m, D.int p.T, D.int p.D, D.int l, D.int p.g].map some ++ List.replicate (9 - 6) none : Sd) = [some (.loc 1), some (.loc m), some (.int p.T), some (.int p.D), some (.int l), some (.int p.g), none, none, none] := rfl
    refine ⟨p6, r6, s6, h6, ?_⟩
    unfold f_law_one_turn runB
    rw [er, em]
    have ej : dst ns p6 r6 s6 ++ (J2 ++ J6) = dst ns p6 r6 s6 ++ (J ++ ([O.lst (trs.map trD)] ++ [O.lst (trs2.map trD)] ++ J6)) := by rw [hJ2, hJ1]; simp
    rw [ej]
    exact trim_dst2 (by simp)
  by_cases hs : sh = 0
  · obtain ⟨L', p6, r6, s6, h6, hA6, hL6, e6⟩ := shuffled_eq (ns := ns) (J := J2 ++ J4) (r := r5) (s := s5) hq3 hp5 (by omega) hA3
    have em := ot_m e1 (hq1 _ _ _) ht0 e2 e3 hmid e5 (fun _ => e6) (fun z => absurd hs z) dget (judgedZ hl hA6 (by omega) (by omega) (by omega))
    rw [List.append_assoc] at em
    exact fin p6 r6 s6 _ h6 em
  · have em := ot_m (q4 := q3) (S6 := dst ns p5 r5 s5 ++ (J2 ++ J4)) e1 (hq1 _ _ _) ht0 e2 e3 hmid e5 (fun z => absurd z hs) (fun _ => ⟨rfl, rfl⟩) (hq3 _ _ _) (judgedZ hl hA3 (by omega) (by omega) (by omega))
    exact fin p5 r5 s5 _ hp5 em
end G
set_option linter.all false
set_option maxRecDepth 100000
set_option maxHeartbeats 4000000
namespace G
open PySem PySem.Spec PyProof.Rows L2 FL
variable [KMap]
/-! ### the law, statement by statement -/
theorem seq_nx {a b : Ms} {σ σ' : Sd} {S S' : Sto} (h : a σ S = .nx σ' S') : mSeq a b σ S = b σ' S' := by
  show (a σ S).sq b = _
  rw [h]; rfl
noncomputable def mlaw_s1 : Ms :=
  (mSet 2 (mL f_law_draw (aCons (mVar 1) (aCons (mC (.int 4)) aNil))))
noncomputable def mlaw_s2 : Ms :=
  (mSet 3 (mL fMax2 (aCons (mC (.int 1)) (aCons (mOp fAdd (mVar 2) (mL f_law_pick (aCons (mVar 1) (aCons (mL fLst (aCons (mC (.int 2)) (aCons (mC (.int 3)) (aCons (mC (.int 4)) (aCons (mC (.int 1)) (aCons (mC (.int 5)) (aCons (mC (.int 7)) (aCons (mC (.int 0)) aNil)))))))) aNil)))) aNil))))
noncomputable def mlaw_s3 : Ms :=
  (mSet 4 (mL f_law_draw (aCons (mVar 1) (aCons (mC (.int 4)) aNil))))
noncomputable def mlaw_s4 : Ms :=
  (mSet 5 (mL f_law_draw (aCons (mVar 1) (aCons (mC (.int 4)) aNil))))
noncomputable def mlaw_s5 : Ms :=
  (mIfS (mTest (mL f_law_rare (aCons (mVar 1) (aCons (mC (.int 13)) aNil)))) (mSet 3 (mOp fSub (mC (.int 24)) (mL f_law_draw (aCons (mVar 1) (aCons (mC (.int 6)) aNil))))) mNext)
noncomputable def mlaw_s6 : Ms :=
  (mSet 6 (mL f_law_totals (aCons (mVar 3) (aCons (mVar 4) (aCons (mVar 5) (aCons (mVar 2) aNil))))))
noncomputable def mlaw_s7 : Ms :=
  (mSet 7 (mL fworst_bar (aCons (mVar 3) (aCons (mVar 4) (aCons (mVar 5) (aCons (mVar 2) aNil))))))
noncomputable def mlaw_s8 : Ms :=
  (mIfS (mOr (mNot (mTest (mL fIsi (aCons (mVar 7) (aCons (mC (.ty "tuple")) aNil))))) (mNot (mTest (mL fAll (aCons (mComp (mIt (mVar 7)) (gN 14) mYes (mL f_law_is_ints (aCons (mVar 14) aNil)) [14]) aNil))))) (mRet (mC (.bl false))) mNext)
noncomputable def mlaw_s9 : Ms :=
  (mIfS (mTest (mOp fNe (mVar 7) (mL fTupOf (aCons (mComp (mIt (mL fSortDT (aCons (mVar 6) aNil))) (gN 15) mYes (mL fTup (aCons (mOp fSub_ (mVar 15) (mC (.int 0))) (aCons (mOp fSub_ (mVar 15) (mC (.int 1))) (aCons (mOp fSub_ (mVar 6) (mVar 15)) aNil)))) [15]) aNil)))) (mRet (mC (.bl false))) mNext)
noncomputable def mlaw_s10 : Ms :=
  (mSet 8 (mL f_law_left (aCons (mVar 6) (aCons (mVar 3) (aCons (mVar 2) (aCons (mC (.int 0)) (aCons (mUn fNeg (mC (.int 1))) aNil)))))))
noncomputable def mlaw_s11 : Ms :=
  (mSet 9 (mL fLst (aCons (mL fTup (aCons (mVar 8) (aCons (mVar 7) aNil))) (aCons (mL fTup (aCons (mOp fSub (mVar 8) (mC (.int 1))) (aCons (mVar 7) aNil))) (aCons (mL fTup (aCons (mOp fAdd (mVar 8) (mC (.int 3))) (aCons (mVar 7) aNil))) (aCons (mL fTup (aCons (mVar 8) (aCons (mOp fAdd (mVar 7) (mL fTup (aCons (mL fTup (aCons (mC (.int 0)) (aCons (mUn fNeg (mC (.int 1))) (aCons (mVar 8) aNil)))) aNil))) aNil))) (aCons (mL fTup (aCons (mC .non) (aCons (mVar 7) aNil))) aNil)))))))
noncomputable def mlaw_s12 : Ms :=
  (mSet 9 (mOp fAdd (mVar 9) (mL fLst (aCons (mL fTup (aCons (mVar 8) (aCons (mC .non) aNil))) (aCons (mL fTup (aCons (mVar 8) (aCons (mC (.str ("bar" : Str))) aNil))) (aCons (mL fTup (aCons (mVar 8) (aCons (mL fTup (aCons (mVar 8) aNil)) aNil))) (aCons (mL fTup (aCons (mVar 8) (aCons (mL fTup (aCons (mL fTup aNil) aNil)) aNil))) (aCons (mL fTup (aCons (mC (.str ("0" : Str))) (aCons (mVar 7) aNil))) (aCons (mL fTup (aCons (mC (.int 0)) (aCons (mL fTup aNil) aNil))) (aCons (mL fTup (aCons (mUn fNeg (mC (.int 1))) (aCons (mL fTup aNil) aNil))) aNil))))))))))
noncomputable def mlaw_s13 : Ms :=
  (mSet 9 (mOp fAdd (mVar 9) (mL fLst (aCons (mL fTup (aCons (mVar 8) (aCons (mSl (mVar 7) (mP (mC (.int 1))) mNoP) aNil))) (aCons (mL fTup (aCons (mVar 8) (aCons (mSl (mVar 7) mNoP (mP (mUn fNeg (mC (.int 1))))) aNil))) (aCons (mL fTup (aCons (mL fTup (aCons (mVar 8) aNil)) (aCons (mVar 7) aNil))) aNil))))))
noncomputable def mlaw_s14 : Ms :=
  (mDrop (mBM "list" fApp (mVar 9) (aCons (mL fTup (aCons (mVar 8) (aCons (mL fTupOf (aCons (mL f_law_shuffled (aCons (mVar 1) (aCons (mL fLstOf (aCons (mVar 7) aNil)) aNil))) aNil)) aNil))) aNil)))
noncomputable def mlaw_s15 : Ms :=
  (mIfS (mTest (mOp fGt (mL fLen (aCons (mVar 7) aNil)) (mC (.int 0)))) (mSeq (mSet 10 (mL f_law_draw (aCons (mVar 1) (aCons (mL fLen (aCons (mVar 7) aNil)) aNil))))
  (mDrop (mBM "list" fApp (mVar 9) (aCons (mL fTup (aCons (mVar 8) (aCons (mOp fAdd (mOp fAdd (mSl (mVar 7) mNoP (mP (mVar 10))) (mL fTup (aCons (mL fTup (aCons (mOp fSub_ (mOp fSub_ (mVar 7) (mVar 10)) (mC (.int 0))) (aCons (mOp fSub_ (mOp fSub_ (mVar 7) (mVar 10)) (mC (.int 1))) (aCons (mOp fSub (mOp fSub_ (mOp fSub_ (mVar 7) (mVar 10)) (mC (.int 2))) (mC (.int 1))) aNil)))) aNil))) (mSl (mVar 7) (mP (mOp fAdd (mVar 10) (mC (.int 1)))) mNoP)) aNil))) aNil)))) mNext)
noncomputable def mlaw_s16 : Ms :=
  (mFor (mIt (mVar 9)) (gTp 2 (gsCons (gN 11) (gsCons (gN 12) gsNil)))
    mlaw_b1)
noncomputable def mlaw_s17 : Ms :=
  (mFor (iRg fRg1 (aCons (mC (.int 4)) aNil)) (gN 13)
    mlaw_b2)
noncomputable def mlaw_s18 : Ms :=
  (mRet (mC (.bl true)))
theorem mlaw_cut : mlaw = (mSeq mlaw_s1 (mSeq mlaw_s2 (mSeq mlaw_s3 (mSeq mlaw_s4 (mSeq mlaw_s5 (mSeq mlaw_s6 (mSeq mlaw_s7 (mSeq mlaw_s8 (mSeq mlaw_s9 (mSeq mlaw_s10 (mSeq mlaw_s11 (mSeq mlaw_s12 (mSeq mlaw_s13 (mSeq mlaw_s14 (mSeq mlaw_s15 (mSeq mlaw_s16 (mSeq mlaw_s17 mlaw_s18))))))))))))))))) := rfl
theorem rare_eq (ns : List Int) (p r s : Int) (J : Sto) (many : Int) (h0 : 0 < many) (h1 : many < 1000000) (hp : 0 ≤ p) :
    ∃ b p' r' s', 0 ≤ p' ∧ f_law_rare [.loc 1, .int many] (dst ns p r s ++ J) = .ok (.bl b) (dst ns p' r' s' ++ J) := by
  obtain ⟨k, p', r', s', hk0, hk1, hp', e⟩ := draw_eq ns p r s J many h0 h1 hp
  have hn : many.natAbs < 1073741824 := by omega
  refine ⟨decide (k = Int.fdiv many 2), p', r', s', hp', ?_⟩
  simp [f_law_rare, runB, m_law_rare, e]
  exact trim_dst (by simp)
section
variable {S S1 : Sto} {x2 x3 x4 x5 x6 x7 x8 x9 x10 x11 x12 x13 x14 x15 : Option D}
theorem s1_eq {g : Int} (e : f_law_draw [.loc 1, .int 4] S = .ok (.int g) S1) : mlaw_s1 [none, some (.loc 1), x2, x3, x4, x5, x6, x7, x8, x9, x10, x11, x12, x13, x14, x15] S = .nx [none, some (.loc 1), some (.int g), x3, x4, x5, x6, x7, x8, x9, x10, x11, x12, x13, x14, x15] S1 := by
  simp [mlaw_s1, e]
theorem s2_eq {g a t : Int} (e : f_law_pick [.loc 1, .loc S.length] (S ++ [O.lst [.int 2, .int 3, .int 4, .int 1, .int 5, .int 7, .int 0]]) = .ok (.int a) S1) (h : t = max 1 (g + a)) :
    mlaw_s2 [none, some (.loc 1), some (.int g), x3, x4, x5, x6, x7, x8, x9, x10, x11, x12, x13, x14, x15] S = .nx [none, some (.loc 1), some (.int g), some (.int t), x4, x5, x6, x7, x8, x9, x10, x11, x12, x13, x14, x15] S1 := by
  have h' : (if 1 < g + a then g + a else 1) = t := by omega
  simp [mlaw_s2, e, h', sizeLine_eq]
theorem s3_eq {d : Int} (e : f_law_draw [.loc 1, .int 4] S = .ok (.int d) S1) : mlaw_s3 [none, some (.loc 1), x2, x3, x4, x5, x6, x7, x8, x9, x10, x11, x12, x13, x14, x15] S = .nx [none, some (.loc 1), x2, x3, some (.int d), x5, x6, x7, x8, x9, x10, x11, x12, x13, x14, x15] S1 := by
  simp [mlaw_s3, e]
theorem s4_eq {d : Int} (e : f_law_draw [.loc 1, .int 4] S = .ok (.int d) S1) : mlaw_s4 [none, some (.loc 1), x2, x3, x4, x5, x6, x7, x8, x9, x10, x11, x12, x13, x14, x15] S = .nx [none, some (.loc 1), x2, x3, x4, some (.int d), x6, x7, x8, x9, x10, x11, x12, x13, x14, x15] S1 := by
  simp [mlaw_s4, e]
theorem s5_no (e : f_law_rare [.loc 1, .int 13] S = .ok (.bl false) S1) : mlaw_s5 [none, some (.loc 1), x2, x3, x4, x5, x6, x7, x8, x9, x10, x11, x12, x13, x14, x15] S = .nx [none, some (.loc 1), x2, x3, x4, x5, x6, x7, x8, x9, x10, x11, x12, x13, x14, x15] S1 := by
  simp [mlaw_s5, e]
theorem s5_yes {S2 : Sto} {c : Int} (e : f_law_rare [.loc 1, .int 13] S = .ok (.bl true) S1) (e2 : f_law_draw [.loc 1, .int 6] S1 = .ok (.int c) S2) : mlaw_s5 [none, some (.loc 1), x2, x3, x4, x5, x6, x7, x8, x9, x10, x11, x12, x13, x14, x15] S = .nx [none, some (.loc 1), x2, some (.int (24 - c)), x4, x5, x6, x7, x8, x9, x10, x11, x12, x13, x14, x15] S2 := by
  simp [mlaw_s5, e, e2]
theorem s6_eq {g t d l : Int} {m : Nat} (e : f_law_totals [.int t, .int d, .int l, .int g] S = .ok (.loc m) S1) : mlaw_s6 [none, some (.loc 1), some (.int g), some (.int t), some (.int d), some (.int l), x6, x7, x8, x9, x10, x11, x12, x13, x14, x15] S = .nx [none, some (.loc 1), some (.int g), some (.int t), some (.int d), some (.int l), some (.loc m), x7, x8, x9, x10, x11, x12, x13, x14, x15] S1 := by
  simp [mlaw_s6, e]
theorem s7_eq {g t d l : Int} {w : D} (e : fworst_bar [.int t, .int d, .int l, .int g] S = .ok w S) : mlaw_s7 [none, some (.loc 1), some (.int g), some (.int t), some (.int d), some (.int l), x6, x7, x8, x9, x10, x11, x12, x13, x14, x15] S = .nx [none, some (.loc 1), some (.int g), some (.int t), some (.int d), some (.int l), x6, some w, x8, x9, x10, x11, x12, x13, x14, x15] S := by
  simp [mlaw_s7, e]
theorem s8_eq {B : List D} (hB : ∀ x ∈ B, RwD x ∧ isIs x = true) (hz : B.length ≤ 100000) :
    ∃ o, mlaw_s8 [none, some (.loc 1), x2, x3, x4, x5, x6, some (.tup B), x8, x9, x10, x11, x12, x13, x14, x15] S = .nx [none, some (.loc 1), x2, x3, x4, x5, x6, some (.tup B), x8, x9, x10, x11, x12, x13, x14, x15] (S ++ [o]) := by
  have h := compL_map (src := .its B) (g := gN 14) (e := mL f_law_is_ints (aCons (mVar 14) aNil)) (vs := [14]) (σ := [none, some (.loc 1), x2, x3, x4, x5, x6, some (.tup B), x8, x9, x10, x11, x12, x13, x14, x15]) (S := S) (fun _ => .bl true) trivial B (fun d hd => by
    have e := lisints (hB d hd).1.1 (hB d hd).1.2 S
    rw [(hB d hd).2] at e
    exact ⟨_, rfl, by simp [wipeD, e]⟩) (by rw [sizeLine_eq]; omega)
  have e2 : (B.map fun _ => D.bl true) = (B.map fun _ => true).map D.bl := by rw [List.map_map]; rfl
  rw [e2] at h
  have e3 : (B.map fun _ => true).all id = true := by simp
  generalize (B.map fun _ => true) = bs at *
  exact ⟨_, by simp [mlaw_s8, k6, h, blsD_map, e3]; rfl⟩
theorem s9_m {m r : Nat} {B L : List D} (e1 : fSortDT [.loc m] S = .ok (.loc r) S1) (hk : S1[r]? = some (.lst L))
    (e2 : compL (.at_ r (.lst L) L) (gN 15) mYes (mL fTup (aCons (mOp fSub_ (mVar 15) (mC (.int 0))) (aCons (mOp fSub_ (mVar 15) (mC (.int 1))) (aCons (mOp fSub_ (mVar 6) (mVar 15)) aNil)))) [15] [none, some (.loc 1), x2, x3, x4, x5, some (.loc m), some (.tup B), x8, x9, x10, x11, x12, x13, x14, x15] L [] S1 = .ok (.loc S1.length) (S1 ++ [O.lst B]))
    (he : ∀ S, fEqv true (.tup B) (.tup B) S = .ok (.bl false) S) :
    mlaw_s9 [none, some (.loc 1), x2, x3, x4, x5, some (.loc m), some (.tup B), x8, x9, x10, x11, x12, x13, x14, x15] S = .nx [none, some (.loc 1), x2, x3, x4, x5, some (.loc m), some (.tup B), x8, x9, x10, x11, x12, x13, x14, x15] (S1 ++ [O.lst B]) := by
  have hg : (S1 ++ [O.lst B])[S1.length]? = some (.lst B) := get_last
  have hc : mComp (mIt (mL fSortDT (aCons (mVar 6) aNil))) (gN 15) mYes (mL fTup (aCons (mOp fSub_ (mVar 15) (mC (.int 0))) (aCons (mOp fSub_ (mVar 15) (mC (.int 1))) (aCons (mOp fSub_ (mVar 6) (mVar 15)) aNil)))) [15] [none, some (.loc 1), x2, x3, x4, x5, some (.loc m), some (.tup B), x8, x9, x10, x11, x12, x13, x14, x15] S = .ok (.loc S1.length) (S1 ++ [O.lst B]) := by
    have hi : mIt (mL fSortDT (aCons (mVar 6) aNil)) [none, some (.loc 1), x2, x3, x4, x5, some (.loc m), some (.tup B), x8, x9, x10, x11, x12, x13, x14, x15] S = .ok (.at_ r (.lst L) L) S1 := by simp [e1, hk]
    show (mIt _ _ S).bind (compK _ _ _ _ _) = _
    rw [hi, R.bind_ok]
    exact e2
  unfold mlaw_s9
  generalize mComp (mIt (mL fSortDT (aCons (mVar 6) aNil))) (gN 15) mYes (mL fTup (aCons (mOp fSub_ (mVar 15) (mC (.int 0))) (aCons (mOp fSub_ (mVar 15) (mC (.int 1))) (aCons (mOp fSub_ (mVar 6) (mVar 15)) aNil)))) [15] = mc at hc
  simp [hc, he]
theorem s10_eq {g t v : Int} {m : Nat} (e : f_law_left [.loc m, .int t, .int g, .int 0, .int (-1)] S = .ok (.int v) S) : mlaw_s10 [none, some (.loc 1), some (.int g), some (.int t), x4, x5, some (.loc m), x7, x8, x9, x10, x11, x12, x13, x14, x15] S = .nx [none, some (.loc 1), some (.int g), some (.int t), x4, x5, some (.loc m), x7, some (.int v), x9, x10, x11, x12, x13, x14, x15] S := by
  simp [mlaw_s10, e]
/-- what may be asked -/
def AskD (x : D) : Prop := ∃ rows tot, x = .tup [tot, rows] ∧ Ask rows tot
theorem askR {B : List D} {tot : D} (hB : AllR B) (hz : B.length ≤ 100000) (ht : pl tot = true) : AskD (.tup [tot, .tup B]) := ⟨_, _, rfl, rfl, ht, fun xs h => by cases h; exact ⟨hz, fun x hx => (hB x hx).1⟩⟩
theorem s11_eq {B : List D} {v : Int} (hB : AllR B) (hz : B.length ≤ 90000) :
    ∃ A, (∀ x ∈ A, AskD x) ∧ A.length ≤ 10 ∧ mlaw_s11 [none, some (.loc 1), x2, x3, x4, x5, x6, some (.tup B), some (.int v), x9, x10, x11, x12, x13, x14, x15] S = .nx [none, some (.loc 1), x2, x3, x4, x5, x6, some (.tup B), some (.int v), some (.loc S.length), x10, x11, x12, x13, x14, x15] (S ++ [O.lst A]) := by
  have ha := add_tups (S := S) (a := B) (b := [.tup [.int 0, .int (-1), .int v]]) (by simp [sizeLine_eq]; omega)
  refine ⟨[.tup [.int v, .tup B], .tup [.int (v - 1), .tup B], .tup [.int (v + 3), .tup B], .tup [.int v, .tup (B ++ [.tup [.int 0, .int (-1), .int v]])], .tup [.non, .tup B]], fun x hx => ?_, by simp, ?_⟩
  · simp only [List.mem_cons, List.not_mem_nil, or_false] at hx
    rcases hx with rfl | rfl | rfl | rfl | rfl
    · exact askR hB (by omega) rfl
    · exact askR hB (by omega) rfl
    · exact askR hB (by omega) rfl
    · exact askR (hB.snoc (rw_trD (0, -1, v))) (by simp; omega) rfl
    · exact askR hB (by omega) rfl
  · simp [mlaw_s11, ha, sizeLine_eq]
theorem s12_eq {A : List D} {B : List D} {v : Int} {q : Nat} (hB : AllR B) (hz : B.length ≤ 90000) (hq : S[q]? = some (.lst A)) (hA : ∀ x ∈ A, AskD x) (hl : A.length ≤ 10) :
    ∃ A' o, (∀ x ∈ A', AskD x) ∧ A'.length ≤ 20 ∧ mlaw_s12 [none, some (.loc 1), x2, x3, x4, x5, x6, some (.tup B), some (.int v), some (.loc q), x10, x11, x12, x13, x14, x15] S = .nx [none, some (.loc 1), x2, x3, x4, x5, x6, some (.tup B), some (.int v), some (.loc (S.length + 1)), x10, x11, x12, x13, x14, x15] (S ++ [o, O.lst A']) := by
  obtain ⟨N, hN⟩ : ∃ N : List D, N = [.tup [.int v, .non], .tup [.int v, .str ("bar" : Str)], .tup [.int v, .tup [.int v]], .tup [.int v, .tup [.tup []]], .tup [.str ("0" : Str), .tup B], .tup [.int 0, .tup []], .tup [.int (-1), .tup []]] := ⟨_, rfl⟩
  have hNl : N.length = 7 := by rw [hN]; rfl
  have ha := add_lsts (S := S ++ [O.lst N]) (n := q) (m := S.length) (app_get hq _) (get_last) (by rw [sizeLine_eq, hNl]; omega)
  have hl1 : (S ++ [O.lst N]).length = S.length + 1 := by simp
  rw [hl1] at ha
  have e0 : AllR ([] : List D) := fun x hx => by cases hx
  refine ⟨A ++ N, O.lst N, fun x hx => ?_, by rw [List.length_append]; omega, ?_⟩
  · rcases List.mem_append.mp hx with hx | hx
    · exact hA x hx
    · rw [hN] at hx
      simp only [List.mem_cons, List.not_mem_nil, or_false] at hx
      rcases hx with rfl | rfl | rfl | rfl | rfl | rfl | rfl
      · exact ⟨_, _, rfl, rfl, rfl, fun xs h => by cases h⟩
      · exact ⟨_, _, rfl, rfl, rfl, fun xs h => by cases h⟩
      · exact ⟨_, _, rfl, rfl, rfl, fun xs h => by
          cases h
          refine ⟨by simp, fun x hx => ?_⟩
          rw [List.mem_singleton.mp hx]
          exact ⟨rfl, fun ys h => by cases h⟩⟩
      · exact ⟨_, _, rfl, rfl, rfl, fun xs h => by
          cases h
          refine ⟨by simp, fun x hx => ?_⟩
          rw [List.mem_singleton.mp hx]
          exact ⟨rfl, fun ys h => by cases h; simp⟩⟩
      · exact askR hB (by omega) rfl
      · exact askR e0 (by simp) rfl
      · exact askR e0 (by simp) rfl
  · generalize A ++ N = AN at *
    subst hN
    simp [mlaw_s12, ha, sizeLine_eq]
theorem cut_sub {B : List D} (lo hi : Option Int) : ∀ x ∈ FL.cutD B lo hi, x ∈ B := fun x hx => by
  unfold FL.cutD at hx
  exact List.mem_of_mem_drop (List.mem_of_mem_take hx)
theorem cut_len {B : List D} (lo hi : Option Int) : (FL.cutD B lo hi).length ≤ B.length := by
  unfold FL.cutD
  rw [List.length_take, List.length_drop]
  omega
theorem s13_eq {A : List D} {B : List D} {v : Int} {q : Nat} (hB : AllR B) (hz : B.length ≤ 90000) (hq : S[q]? = some (.lst A)) (hA : ∀ x ∈ A, AskD x) (hl : A.length ≤ 20) :
    ∃ A' o, (∀ x ∈ A', AskD x) ∧ A'.length ≤ 30 ∧ mlaw_s13 [none, some (.loc 1), x2, x3, x4, x5, x6, some (.tup B), some (.int v), some (.loc q), x10, x11, x12, x13, x14, x15] S = .nx [none, some (.loc 1), x2, x3, x4, x5, x6, some (.tup B), some (.int v), some (.loc (S.length + 1)), x10, x11, x12, x13, x14, x15] (S ++ [o, O.lst A']) := by
  obtain ⟨N, hN⟩ : ∃ N : List D, N = [.tup [.int v, .tup (FL.cutD B (some 1) none)], .tup [.int v, .tup (FL.cutD B none (some (-1)))], .tup [.tup [.int v], .tup B]] := ⟨_, rfl⟩
  have hNl : N.length = 3 := by rw [hN]; rfl
  have ha := add_lsts (S := S ++ [O.lst N]) (n := q) (m := S.length) (app_get hq _) (get_last) (by rw [sizeLine_eq, hNl]; omega)
  have hl1 : (S ++ [O.lst N]).length = S.length + 1 := by simp
  rw [hl1] at ha
  refine ⟨A ++ N, O.lst N, fun x hx => ?_, by rw [List.length_append]; omega, ?_⟩
  · rcases List.mem_append.mp hx with hx | hx
    · exact hA x hx
    · rw [hN] at hx
      simp only [List.mem_cons, List.not_mem_nil, or_false] at hx
      rcases hx with rfl | rfl | rfl
      · exact askR (hB.sub (cut_sub _ _)) (by have := cut_len (B := B) (some 1) none; omega) rfl
      · exact askR (hB.sub (cut_sub _ _)) (by have := cut_len (B := B) none (some (-1)); omega) rfl
      · exact askR hB (by omega) rfl
  · generalize A ++ N = AN at *
    subst hN
    simp [mlaw_s13, ha, sizeLine_eq]
theorem s14_m {A B L : List D} {v : Int} {q w : Nat} {S2 : Sto} (e : f_law_shuffled [.loc 1, .loc S.length] (S ++ [O.lst B]) = .ok (.loc w) S2) (hw : S2[w]? = some (.lst L)) (hq0 : S[q]? = some (.lst A)) (hq : S2[q]? = some (.lst A)) (hz : A.length < 16777216) :
    mlaw_s14 [none, some (.loc 1), x2, x3, x4, x5, x6, some (.tup B), some (.int v), some (.loc q), x10, x11, x12, x13, x14, x15] S = .nx [none, some (.loc 1), x2, x3, x4, x5, x6, some (.tup B), some (.int v), some (.loc q), x10, x11, x12, x13, x14, x15] (S2.set q (.lst (A ++ [.tup [.int v, .tup L]]))) := by
  simp [mlaw_s14, e, hw, hq0, hq, hz, sizeLine_eq]
theorem s15_no {q : Nat} : mlaw_s15 [none, some (.loc 1), x2, x3, x4, x5, x6, some (.tup []), x8, some (.loc q), x10, x11, x12, x13, x14, x15] S = .nx [none, some (.loc 1), x2, x3, x4, x5, x6, some (.tup []), x8, some (.loc q), x10, x11, x12, x13, x14, x15] S := by
  simp [mlaw_s15]
theorem s15_m {A B : List D} {v n k a b c : Int} {q : Nat} {S2 : Sto} (hn : (B.length : Int) = n) (h0 : 0 < n) (e : f_law_draw [.loc 1, .int n] S = .ok (.int k) S2) (hat : atI B k = some (.tup [.int a, .int b, .int c])) (hq : S2[q]? = some (.lst A)) (hz : A.length < 16777216) (hq0 : S[q]? = some (.lst A))
    (hz2 : B.length ≤ 90000) :
    mlaw_s15 [none, some (.loc 1), x2, x3, x4, x5, x6, some (.tup B), some (.int v), some (.loc q), x10, x11, x12, x13, x14, x15] S = .nx [none, some (.loc 1), x2, x3, x4, x5, x6, some (.tup B), some (.int v), some (.loc q), some (.int k), x11, x12, x13, x14, x15] (S2.set q (.lst (A ++ [.tup [.int v, .tup (FL.cutD B none (some k) ++ [trD (a, b, c - 1)] ++ FL.cutD B (some (k + 1)) none)]]))) := by
  have i0 : ∀ a b c : D, atI [a, b, c] 0 = some a := fun _ _ _ => rfl
  have i1 : ∀ a b c : D, atI [a, b, c] 1 = some b := fun _ _ _ => rfl
  have i2 : ∀ a b c : D, atI [a, b, c] 2 = some c := fun _ _ _ => rfl
  have c1 := cut_len (B := B) none (some k)
  have c2 := cut_len (B := B) (some (k + 1)) none
  have a1 := add_tups (S := S2) (a := FL.cutD B none (some k)) (b := [.tup [.int a, .int b, .int (c - 1)]]) (by simp [sizeLine_eq]; omega)
  have a2 := add_tups (S := S2) (a := FL.cutD B none (some k) ++ [.tup [.int a, .int b, .int (c - 1)]]) (b := FL.cutD B (some (k + 1)) none) (by simp [sizeLine_eq]; omega)
  simp only [List.append_assoc, List.cons_append, List.nil_append] at a2
  simp [mlaw_s15, hn, h0, e, hat, i0, i1, i2, a1, a2, hq, hq0, hz, trD, sizeLine_eq]
end
end G
set_option linter.all false
set_option maxRecDepth 100000
set_option maxHeartbeats 4000000
namespace G
open PySem PySem.Spec PyProof.Rows L2 FL
variable [KMap]
section
variable {S : Sto} {x2 x3 x4 x5 x6 x7 x8 x9 x10 x11 x12 x13 x14 x15 : Option D}
theorem wb_comp2 {p : Par} {q m : Nat} {kvs : Tab} {ps : List (Int × Int)} (hQ : S[q]? = some (.lst (ps.map prD))) (hM : TabAt S m kvs) (hv : ∀ x ∈ ps, tv kvs x.1 x.2 = some (.int (p.Vf x.1 x.2))) (hz : ps.length ≤ 100000) :
    compL (.at_ q (.lst (ps.map prD)) (ps.map prD)) (gN 15) mYes (mL fTup (aCons (mOp fSub_ (mVar 15) (mC (.int 0))) (aCons (mOp fSub_ (mVar 15) (mC (.int 1))) (aCons (mOp fSub_ (mVar 6) (mVar 15)) aNil)))) [15] [none, some (.loc 1), x2, x3, x4, x5, some (.loc m), x7, x8, x9, x10, x11, x12, x13, x14, x15] (ps.map prD) [] S =
      .ok (.loc S.length) (S ++ [O.lst (ps.map fun x => trD (x.1, x.2, p.Vf x.1 x.2))]) := by
  have h := compL_map (src := .at_ q (.lst (ps.map prD)) (ps.map prD)) (g := gN 15) (e := mL fTup (aCons (mOp fSub_ (mVar 15) (mC (.int 0))) (aCons (mOp fSub_ (mVar 15) (mC (.int 1))) (aCons (mOp fSub_ (mVar 6) (mVar 15)) aNil)))) (vs := [15]) (σ := [none, some (.loc 1), x2, x3, x4, x5, some (.loc m), x7, x8, x9, x10, x11, x12, x13, x14, x15]) (S := S)
    (fun d => match d with
      | .tup [.int f, .int s] => trD (f, s, p.Vf f s)
      | _ => .non) hQ (ps.map prD) (fun d hd => by
      obtain ⟨x, hx, rfl⟩ := List.mem_map.mp hd
      have hs := sub_tab (a := x.1) (b := x.2) hM
      rw [hv x hx] at hs
      exact ⟨_, rfl, by simp [prD, trD, wipeD, hs, atI, ixN, sizeLine_eq]⟩) (by rw [List.length_map, sizeLine_eq]; omega)
  rw [List.map_map] at h
  exact h
theorem lb1_eq {p : Par} {l : Int} {rows tot : D} (hl : p.D + l = p.L) (ha : Ask rows tot) (hb1 : p.T ≤ 100) (hb2 : p.L ≤ 100) :
    mlaw_b1 [none, some (.loc 1), some (.int p.g), some (.int p.T), some (.int p.D), some (.int l), x6, x7, x8, x9, x10, some tot, some rows, x13, x14, x15] S = .nx [none, some (.loc 1), some (.int p.g), some (.int p.T), some (.int p.D), some (.int l), x6, x7, x8, x9, x10, some tot, some rows, x13, x14, x15] S := by
  have e := judged_eq (S := S) hl ha hb1 hb2
  simp [mlaw_b1, e]
theorem s16_eq {p : Par} {l : Int} {q : Nat} {A : List D} (hl : p.D + l = p.L) (hq : S[q]? = some (.lst A)) (hA : ∀ x ∈ A, AskD x) (hb1 : p.T ≤ 100) (hb2 : p.L ≤ 100) :
    ∃ a b, mlaw_s16 [none, some (.loc 1), some (.int p.g), some (.int p.T), some (.int p.D), some (.int l), x6, x7, x8, some (.loc q), x10, x11, x12, x13, x14, x15] S = .nx [none, some (.loc 1), some (.int p.g), some (.int p.T), some (.int p.D), some (.int l), x6, x7, x8, some (.loc q), x10, a, b, x13, x14, x15] S := by
  have h := for_src (src := .at_ q (.lst A) A) (g := gTp 2 (gsCons (gN 11) (gsCons (gN 12) gsNil))) (b := mlaw_b1) (σ := [none, some (.loc 1), some (.int p.g), some (.int p.T), some (.int p.D), some (.int l), x6, x7, x8, some (.loc q), x10, x11, x12, x13, x14, x15]) (S := S)
    (fun i σ S' => S' = S ∧ ∃ a b, σ = [none, some (.loc 1), some (.int p.g), some (.int p.T), some (.int p.D), some (.int l), x6, x7, x8, some (.loc q), x10, a, b, x13, x14, x15])
    ⟨rfl, _, _, rfl⟩ (fun i σ S' h => by rw [h.1]; exact hq) (by
      intro i d σ S' hd h
      obtain ⟨rfl, a, b, rfl⟩ := h
      obtain ⟨rows, tot, rfl, ha⟩ := hA d (List.mem_of_getElem? (show A[i]? = some d from hd))
      exact ⟨_, _, .inl (nx_of2 (lb1_eq hl ha hb1 hb2)), rfl, _, _, rfl⟩)
  obtain ⟨σ', S', e, rfl, a, b, rfl⟩ := h
  refine ⟨a, b, ?_⟩
  have e : forL (.at_ q (.lst A) A) (gTp 2 (gsCons (gN 11) (gsCons (gN 12) gsNil))) mlaw_b1 A _ _ = _ := e
  simp [mlaw_s16, hq, e]
theorem lb2_eq {p : Par} {l : Int} {m : Nat} {kvs : Tab} {S1 : Sto} (hM : S[m]? = some (.dT kvs)) (h0 : kvs.length = 0 → S1 = S) (h1 : 0 < kvs.length → f_law_one_turn [.loc 1, .loc m, .int p.T, .int p.D, .int l, .int p.g] S = .ok (.bl true) S1) :
    mlaw_b2 [none, some (.loc 1), some (.int p.g), some (.int p.T), some (.int p.D), some (.int l), some (.loc m), x7, x8, x9, x10, x11, x12, x13, x14, x15] S = .nx [none, some (.loc 1), some (.int p.g), some (.int p.T), some (.int p.D), some (.int l), some (.loc m), x7, x8, x9, x10, x11, x12, x13, x14, x15] S1 := by
  have hl := len_dT hM
  by_cases h : kvs.length = 0
  · have := h0 h
    subst this
    rw [h] at hl
    simp [mlaw_b2, hl]
  · have e := h1 (by omega)
    have hp : 0 < (kvs.length : Int) := by omega
    generalize (kvs.length : Int) = n at *
    simp [mlaw_b2, hl, hp, e]
theorem s17_eq {p : Par} {ns : List Int} {J : Sto} {l pp r s : Int} {m : Nat} {kvs : Tab} {ps : List (Int × Int)} (hl : p.D + l = p.L) (hM : TJ ns J m kvs) (hk : kvs.map (·.1) = ps.map kp) (hnd : ps.Nodup) (hmem : ∀ f s, (f, s) ∈ ps ↔ Vd p f s) (hv : ∀ x ∈ ps, tv kvs x.1 x.2 = some (.int (p.Vf x.1 x.2))) (hb1 : p.T ≤ 24) (hb2 : p.L ≤ 6) (hb3 : p.g ≤ 100) (hp : 0 ≤ pp) :
    ∃ a pp' r' s', mlaw_s17 [none, some (.loc 1), some (.int p.g), some (.int p.T), some (.int p.D), some (.int l), some (.loc m), x7, x8, x9, x10, x11, x12, x13, x14, x15] (dst ns pp r s ++ J) = .nx [none, some (.loc 1), some (.int p.g), some (.int p.T), some (.int p.D), some (.int l), some (.loc m), x7, x8, x9, x10, x11, x12, a, x14, x15] (dst ns pp' r' s' ++ J) := by
  have hkl : kvs.length = ps.length := by
    have := congrArg List.length hk
    simpa using this
  have h := for_rg (lo := 0) (n := 4) (g := gN 13) (b := mlaw_b2) (σ := [none, some (.loc 1), some (.int p.g), some (.int p.T), some (.int p.D), some (.int l), some (.loc m), x7, x8, x9, x10, x11, x12, x13, x14, x15]) (S := dst ns pp r s ++ J)
    (fun i σ S' => ∃ a pp' r' s', σ = [none, some (.loc 1), some (.int p.g), some (.int p.T), some (.int p.D), some (.int l), some (.loc m), x7, x8, x9, x10, x11, x12, a, x14, x15] ∧ S' = dst ns pp' r' s' ++ J ∧ 0 ≤ pp')
    ⟨_, pp, r, s, rfl, rfl, hp⟩ (by
      intro i σ S' hi h
      obtain ⟨a, p1, r1, s1, rfl, rfl, h1⟩ := h
      by_cases h0 : kvs.length = 0
      · exact ⟨_, _, .inl (nx_of (lb2_eq (hM p1 r1 s1) (fun _ => rfl) (fun z => by omega))), _, p1, r1, s1, rfl, rfl, h1⟩
      · obtain ⟨p2, r2, s2, hp2, e⟩ := turn_eq (ns := ns) (J := J) (r := r1) (s := s1) hl hM hk hnd hmem hv hb1 hb2 hb3 h1 (by omega)
        exact ⟨_, _, .inl (nx_of (lb2_eq (hM p1 r1 s1) (fun z => absurd z h0) (fun _ => e))), _, p2, r2, s2, rfl, rfl, hp2⟩)
  obtain ⟨σ', S', e, a, p1, r1, s1, rfl, rfl, _⟩ := h
  refine ⟨a, p1, r1, s1, ?_⟩
  simp [mlaw_s17, e]
end
theorem nb_trs (ts : List Tr) : (D.tup (ts.map trD)).nb = true := by
  rw [D.nb, nbs_all, List.all_eq_true]
  intro d hd
  obtain ⟨e, _, rfl⟩ := List.mem_map.mp hd
  rfl
theorem dep_trs (ts : List Tr) : (D.tup (ts.map trD)).dep ≤ 64 := by
  have h := deps_le (k := 1) (ds := ts.map trD) fun d hd => by
    obtain ⟨e, _, rfl⟩ := List.mem_map.mp hd
    simp [trD, D.dep, D.deps]
  rw [D.dep]; omega
theorem eqv_trs (ts : List Tr) (S : Sto) : fEqv true (D.tup (ts.map trD)) (D.tup (ts.map trD)) S = .ok (.bl false) S := by
  have e := eqv_data (S := S) (nb_trs ts) (nb_trs ts) (dep_trs ts) (dep_trs ts)
  simp only [fEqv, e]
  simp
theorem law_rest {p : Par} {ns : List Int} {J : Sto} {l pp r s : Int} (hl : p.D + l = p.L) (hl0 : 0 ≤ l) (hb1 : p.T ≤ 24) (hb2 : p.L ≤ 6) (hb3 : p.g ≤ 3) (hp : 0 ≤ pp) :
    ∃ S', (mSeq mlaw_s6 (mSeq mlaw_s7 (mSeq mlaw_s8 (mSeq mlaw_s9 (mSeq mlaw_s10 (mSeq mlaw_s11 (mSeq mlaw_s12 (mSeq mlaw_s13 (mSeq mlaw_s14 (mSeq mlaw_s15 (mSeq mlaw_s16 (mSeq mlaw_s17 mlaw_s18))))))))))))
      [none, some (.loc 1), some (.int p.g), some (.int p.T), some (.int p.D), some (.int l), none, none, none, none, none, none, none, none, none, none] (dst ns pp r s ++ J) = .ret (.bl true) S' := by
  have hLL := p.hL
  obtain ⟨kvs, e6, hT, _, hK⟩ := totals_eq (S := dst ns pp r s ++ J) hl hl0 (by omega) (by omega) (by omega)
  obtain ⟨m, hm⟩ : ∃ m, m = (dst ns pp r s ++ J).length := ⟨_, rfl⟩
  have hm2 : m = 2 + J.length := by rw [hm]; simp
  rw [← hm, List.append_assoc] at e6
  obtain ⟨J1, hJ1⟩ : ∃ J1, J1 = J ++ [O.dT kvs] := ⟨_, rfl⟩
  rw [← hJ1] at e6
  have hTJ : TJ ns J1 m kvs := fun a b c => by rw [hJ1, hm2]; exact dget
  rw [seq_nx (s6_eq e6)]
  -- the told bar
  obtain ⟨ps, e7, hn, hv⟩ := worst_bar_eq (S := dst ns pp r s ++ J1) hl hl0 hb1 hb2
  rw [seq_nx (s7_eq e7)]
  have hlen := len_small hn (fun f s h => (hv f s).mp h) hb1 hb2
  obtain ⟨B, hB⟩ : ∃ B, B = (barOf p ps).map trD := ⟨_, rfl⟩
  have hBl : B.length ≤ 5000 := by rw [hB, List.length_map]; unfold barOf; rw [List.length_map, (sortP_perm ps).length_eq]; exact hlen
  have hBR : AllR B := by rw [hB]; exact allR_trs _
  rw [← hB]
  obtain ⟨o8, e8⟩ := s8_eq (S := dst ns pp r s ++ J1) (x2 := some (.int p.g)) (x3 := some (.int p.T)) (x4 := some (.int p.D)) (x5 := some (.int l)) (x6 := some (.loc m)) (x8 := none) (x9 := none) (x10 := none) (x11 := none) (x12 := none) (x13 := none) (x14 := none) (x15 := none) (B := B) (fun x hx => by
    refine ⟨(hBR x hx).1, ?_⟩
    rw [hB] at hx
    obtain ⟨t, _, rfl⟩ := List.mem_map.mp hx
    rfl) (by omega)
  rw [seq_nx e8]
  -- the law's own
  obtain ⟨hKi, ⟨ps', hk', hn'⟩, hKv⟩ := hK
  have hmem' : ∀ f s, (f, s) ∈ ps' ↔ Vd p f s := fun f s => by
    have h1 := any_keys hk' (f, s)
    have h2 : (tv kvs f s).isSome = (kvs.any fun kv => decide (kv.1 = kp (f, s))) := by
      unfold tv valD
      rw [Option.isSome_map, Bool.eq_iff_iff, List.find?_isSome, List.any_eq_true]; rfl
    rw [← h2] at h1
    constructor
    · intro h
      exact hKv f s (fun z => by rw [z] at h1; exact absurd (h1.mpr h) (by simp))
    · intro h
      rw [← h1, hT s (by have := h.1; omega) f (by have := h.2.2.1; omega) h.2.2.2 h.2.1]; rfl
  have hperm : ps'.Perm ps := (List.perm_ext_iff_of_nodup hn' hn).mpr fun x => by rw [hmem' x.1 x.2, hv x.1 x.2]
  have hsort : sortP ps' = sortP ps := sorted_uniq (sortP_sorted _) (sortP_sorted _) ((sortP_perm ps').trans (hperm.trans (sortP_perm ps).symm))
  have hval : ∀ x ∈ ps', tv kvs x.1 x.2 = some (.int (p.Vf x.1 x.2)) := fun x hx => by
    have h := (hmem' x.1 x.2).mp hx
    exact hT x.2 (by have := h.1; omega) x.1 (by have := h.2.2.1; omega) h.2.2.2 h.2.1
  obtain ⟨J2, hJ2⟩ : ∃ J2, J2 = J1 ++ [o8] := ⟨_, rfl⟩
  rw [List.append_assoc, ← hJ2]
  have hTJ2 : TJ ns J2 m kvs := by rw [hJ2]; exact hTJ.app _
  have e9a := sortDT_eq (ps := ps') (hTJ2 pp r s) hk'
  obtain ⟨J3, hJ3⟩ : ∃ J3, J3 = J2 ++ [O.lst ((sortP ps').map prD)] := ⟨_, rfl⟩
  have hq3 : (dst ns pp r s ++ J3)[(dst ns pp r s ++ J2).length]? = some (.lst ((sortP ps').map prD)) := by rw [hJ3, ← List.append_assoc]; exact get_last
  rw [List.append_assoc, ← hJ3] at e9a
  have hTJ3 : TJ ns J3 m kvs := by rw [hJ3]; exact hTJ2.app _
  have e9b := wb_comp2 (S := dst ns pp r s ++ J3) (p := p) (x2 := some (.int p.g)) (x3 := some (.int p.T)) (x4 := some (.int p.D)) (x5 := some (.int l)) (x7 := some (.tup B)) (x8 := none) (x9 := none) (x10 := none) (x11 := none) (x12 := none) (x13 := none) (x14 := none) (x15 := none) (ps := sortP ps') hq3 (.inl (hTJ3 pp r s)) (fun x hx => hval x ((sortP_perm ps').mem_iff.mp hx)) (by rw [(sortP_perm ps').length_eq, hperm.length_eq]; omega)
  have hBB : (sortP ps').map (fun x => trD (x.1, x.2, p.Vf x.1 x.2)) = B := by rw [hB, hsort]; unfold barOf; rw [List.map_map]; rfl
  rw [hBB] at e9b
  rw [seq_nx (s9_m e9a hq3 e9b (fun S => by rw [hB]; exact eqv_trs _ S))]
  obtain ⟨J4, hJ4⟩ : ∃ J4, J4 = J3 ++ [O.lst B] := ⟨_, rfl⟩
  rw [List.append_assoc, ← hJ4]
  have hTJ4 : TJ ns J4 m kvs := by rw [hJ4]; exact hTJ3.app _
  have e10 := left_eq (p := p) (f := 0) (s := -1) (hTJ4 pp r s) (hT (-1) (by omega) 0 (by omega) (by omega))
  rw [seq_nx (s10_eq e10)]
  obtain ⟨A1, hA1, hl1, e11⟩ := s11_eq (S := dst ns pp r s ++ J4) (x2 := some (.int p.g)) (x3 := some (.int p.T)) (x4 := some (.int p.D)) (x5 := some (.int l)) (x6 := some (.loc m)) (x9 := none) (x10 := none) (x11 := none) (x12 := none) (x13 := none) (x14 := none) (x15 := none) (v := p.Vf 0 (-1)) hBR (by omega)
  rw [seq_nx e11]
  obtain ⟨A2, o2, hA2, hl2, e12⟩ := s12_eq (S := dst ns pp r s ++ J4 ++ [O.lst A1]) (x2 := some (.int p.g)) (x3 := some (.int p.T)) (x4 := some (.int p.D)) (x5 := some (.int l)) (x6 := some (.loc m)) (x10 := none) (x11 := none) (x12 := none) (x13 := none) (x14 := none) (x15 := none) (v := p.Vf 0 (-1)) hBR (by omega) get_last hA1 hl1
  rw [seq_nx e12]
  have hq12 : (dst ns pp r s ++ J4 ++ [O.lst A1] ++ [o2, O.lst A2])[(dst ns pp r s ++ J4 ++ [O.lst A1]).length + 1]? = some (.lst A2) := get_mid1 (J := [])
  obtain ⟨A3, o3, hA3, hl3, e13⟩ := s13_eq (S := dst ns pp r s ++ J4 ++ [O.lst A1] ++ [o2, O.lst A2]) (x2 := some (.int p.g)) (x3 := some (.int p.T)) (x4 := some (.int p.D)) (x5 := some (.int l)) (x6 := some (.loc m)) (x10 := none) (x11 := none) (x12 := none) (x13 := none) (x14 := none) (x15 := none) (v := p.Vf 0 (-1)) hBR (by omega) hq12 hA2 hl2
  rw [seq_nx e13]
  -- one store
  obtain ⟨J5, hJ5⟩ : ∃ J5, J5 = J4 ++ [O.lst A1] ++ [o2, O.lst A2] ++ [o3] := ⟨_, rfl⟩
  have eJ5 : dst ns pp r s ++ J4 ++ [O.lst A1] ++ [o2, O.lst A2] ++ [o3, O.lst A3] = dst ns pp r s ++ (J5 ++ [O.lst A3]) := by rw [hJ5]; simp
  have eL5 : (dst ns pp r s ++ J4 ++ [O.lst A1] ++ [o2, O.lst A2]).length + 1 = 2 + J5.length := by rw [hJ5]; simp; omega
  rw [eJ5, eL5]
  have hTJ5 : TJ ns J5 m kvs := by rw [hJ5, List.append_assoc, List.append_assoc]; exact hTJ4.app _
  -- the shuffled bar
  obtain ⟨L', p1, r1, s1, hp1, hAL, hLl, e14⟩ := shuffled_eq (ns := ns) (J := J5 ++ [O.lst A3] ++ [O.lst B]) (r := r) (s := s) (q := 2 + J5.length + 1) (L := B) (fun a b c => by
    rw [List.append_assoc]
    exact dget1) hp (by omega) hBR
  have e14' : f_law_shuffled [.loc 1, .loc (dst ns pp r s ++ (J5 ++ [O.lst A3])).length] ((dst ns pp r s ++ (J5 ++ [O.lst A3])) ++ [O.lst B]) = .ok (.loc (2 + (J5 ++ [O.lst A3] ++ [O.lst B]).length)) (dst ns p1 r1 s1 ++ (J5 ++ O.lst A3 :: [O.lst B, O.lst L'])) := by
    have h1 : (dst ns pp r s ++ (J5 ++ [O.lst A3])).length = 2 + J5.length + 1 := by simp; omega
    rw [h1, List.append_assoc, e14]
    simp
  have hw14 : (dst ns p1 r1 s1 ++ (J5 ++ O.lst A3 :: [O.lst B, O.lst L']))[2 + (J5 ++ [O.lst A3] ++ [O.lst B]).length]? = some (.lst L') := by
    have : J5 ++ O.lst A3 :: [O.lst B, O.lst L'] = (J5 ++ [O.lst A3] ++ [O.lst B]) ++ O.lst L' :: [] := by simp
    rw [this]; exact dget
  rw [seq_nx (s14_m e14' hw14 dget dget (by omega)), dset]
  have hA4 : ∀ x ∈ A3 ++ [D.tup [.int (p.Vf 0 (-1)), .tup L']], AskD x := fun x hx => by
    rcases List.mem_append.mp hx with hx | hx
    · exact hA3 x hx
    · rw [List.mem_singleton.mp hx]; exact askR hAL (by omega) rfl
  have hl4 : (A3 ++ [D.tup [.int (p.Vf 0 (-1)), .tup L']]).length ≤ 31 := by simp; omega
  generalize A3 ++ [D.tup [.int (p.Vf 0 (-1)), .tup L']] = A4 at *
  -- one number less
  have h15 : ∃ (a : Option D) (A5 : List D) (p2 r2 s2 : Int), (∀ x ∈ A5, AskD x) ∧ 0 ≤ p2 ∧ mlaw_s15 [none, some (.loc 1), some (.int p.g), some (.int p.T), some (.int p.D), some (.int l), some (.loc m), some (.tup B), some (.int (p.Vf 0 (-1))), some (.loc (2 + J5.length)), none, none, none, none, none, none] (dst ns p1 r1 s1 ++ (J5 ++ O.lst A4 :: [O.lst B, O.lst L'])) =
      .nx [none, some (.loc 1), some (.int p.g), some (.int p.T), some (.int p.D), some (.int l), some (.loc m), some (.tup B), some (.int (p.Vf 0 (-1))), some (.loc (2 + J5.length)), a, none, none, none, none, none] (dst ns p2 r2 s2 ++ (J5 ++ O.lst A5 :: [O.lst B, O.lst L'])) := by
    by_cases hB0 : B = []
    · refine ⟨none, A4, p1, r1, s1, hA4, hp1, ?_⟩
      rw [hB0]
      exact s15_no
    · have hBp : 0 < B.length := Nat.pos_of_ne_zero fun z => hB0 (List.length_eq_zero_iff.mp z)
      obtain ⟨k, p2, r2, s2, k0, k1, hp2, e⟩ := draw_eq ns p1 r1 s1 (J5 ++ O.lst A4 :: [O.lst B, O.lst L']) B.length (by omega) (by omega) hp1
      obtain ⟨t, ht⟩ := at_trs (ts := barOf p ps) (k := k) k0 (by rw [← hB]; exact k1)
      rw [← hB] at ht
      obtain ⟨a, b, c⟩ := t
      have em := s15_m (x2 := some (.int p.g)) (x3 := some (.int p.T)) (x4 := some (.int p.D)) (x5 := some (.int l)) (x6 := some (.loc m)) (x10 := none) (x11 := none) (x12 := none) (x13 := none) (x14 := none) (x15 := none) (v := p.Vf 0 (-1)) rfl (by omega) e ht dget (by omega) dget (by omega)
      rw [dset] at em
      refine ⟨_, _, p2, r2, s2, fun x hx => ?_, hp2, em⟩
      rcases List.mem_append.mp hx with hx | hx
      · exact hA4 x hx
      · rw [List.mem_singleton.mp hx]
        refine askR (fun y hy => ?_) ?_ rfl
        · rcases List.mem_append.mp hy with hy | hy
          · rcases List.mem_append.mp hy with hy | hy
            · exact hBR y (cut_sub _ _ y hy)
            · rw [List.mem_singleton.mp hy]; exact rw_trD _
          · exact hBR y (cut_sub _ _ y hy)
        · have c1 := cut_len (B := B) none (some k)
          have c2 := cut_len (B := B) (some (k + 1)) none
          rw [List.length_append, List.length_append, List.length_singleton]; omega
  obtain ⟨a15, A5, p2, r2, s2, hA5, hp2, e15⟩ := h15
  rw [seq_nx e15]
  obtain ⟨a16, b16, e16⟩ := s16_eq (S := dst ns p2 r2 s2 ++ (J5 ++ O.lst A5 :: [O.lst B, O.lst L'])) (x6 := some (.loc m)) (x7 := some (.tup B)) (x8 := some (.int (p.Vf 0 (-1)))) (x10 := a15) (x11 := none) (x12 := none) (x13 := none) (x14 := none) (x15 := none) hl dget hA5 (by omega) (by omega)
  rw [seq_nx e16]
  obtain ⟨a17, p3, r3, s3, e17⟩ := s17_eq (ns := ns) (J := J5 ++ O.lst A5 :: [O.lst B, O.lst L']) (r := r2) (s := s2) (x7 := some (.tup B)) (x8 := some (.int (p.Vf 0 (-1)))) (x9 := some (.loc (2 + J5.length))) (x10 := a15) (x11 := a16) (x12 := b16) (x13 := none) (x14 := none) (x15 := none) hl (hTJ5.app _) hk' hn' hmem' hval hb1 hb2 (by omega) hp2
  rw [seq_nx e17]
  exact ⟨_, rfl⟩
theorem law_math : ∀ ns : List Int, ns.length ≤ 63 → ∃ S', mlaw (none :: some (.loc 1) :: List.replicate (Nlaw.length - 2) none) (begSto ns) = .ret (.bl true) S' := fun ns _ => by
  have es : (none :: some (D.loc 1) :: List.replicate (Nlaw.length - 2) none : Sd) = [none, some (.loc 1), none, none, none, none, none, none, none, none, none, none, none, none, none, none] := rfl
  have e0 : begSto ns = dst ns 0 0 11 ++ [] := by rw [beg_dst, List.append_nil]
  rw [es, e0, mlaw_cut]
  obtain ⟨J0, hJ0⟩ : ∃ J0 : Sto, J0 = [] := ⟨_, rfl⟩
  rw [← hJ0]
  obtain ⟨g, p1, r1, s1, g0, g1, hp1, e1⟩ := draw_eq ns 0 0 11 J0 4 (by omega) (by omega) (by omega)
  rw [seq_nx (s1_eq e1)]
  obtain ⟨a, p2, r2, s2, ha, hp2, e2⟩ := pickI_eq ns p1 r1 s1 J0 [2, 3, 4, 1, 5, 7, 0] (by simp) (by simp) hp1
  obtain ⟨J1, hJ1⟩ : ∃ J1, J1 = J0 ++ [O.lst ([2, 3, 4, 1, 5, 7, 0].map D.int)] := ⟨_, rfl⟩
  rw [← hJ1] at e2
  have ha' : 0 ≤ a ∧ a ≤ 7 := by
    simp only [List.mem_cons, List.not_mem_nil, or_false] at ha
    omega
  have e2' : f_law_pick [.loc 1, .loc (dst ns p1 r1 s1 ++ J0).length] ((dst ns p1 r1 s1 ++ J0) ++ [O.lst [.int 2, .int 3, .int 4, .int 1, .int 5, .int 7, .int 0]]) = .ok (.int a) (dst ns p2 r2 s2 ++ J1) := by
    have h1 : (dst ns p1 r1 s1 ++ J0).length = 2 + J0.length := by simp
    rw [h1, List.append_assoc]
    rw [hJ1] at e2 ⊢
    exact e2
  obtain ⟨t0, ht0⟩ : ∃ t0, t0 = max 1 (g + a) := ⟨_, rfl⟩
  rw [seq_nx (s2_eq e2' ht0)]
  obtain ⟨d, p3, r3, s3, d0, d1, hp3, e3⟩ := draw_eq ns p2 r2 s2 J1 4 (by omega) (by omega) hp2
  rw [seq_nx (s3_eq e3)]
  obtain ⟨l, p4, r4, s4, l0, l1, hp4, e4⟩ := draw_eq ns p3 r3 s3 J1 4 (by omega) (by omega) hp3
  rw [seq_nx (s4_eq e4)]
  obtain ⟨b, p5, r5, s5, hp5, e5⟩ := rare_eq ns p4 r4 s4 J1 13 (by omega) (by omega) hp4
  cases b with
  | false =>
    rw [seq_nx (s5_no e5)]
    obtain ⟨p, hp⟩ : ∃ p : Par, p = ⟨t0, d, d + l, g, by omega, by omega, by omega, by omega, by omega⟩ := ⟨_, rfl⟩
    have q1 : p.T = t0 := by rw [hp]
    have q2 : p.D = d := by rw [hp]
    have q3 : p.L = d + l := by rw [hp]
    have q4 : p.g = g := by rw [hp]
    rw [← q1, ← q2, ← q4]
    exact law_rest (by omega) l0 (by omega) (by omega) (by omega) hp5
  | true =>
    obtain ⟨c, p6, r6, s6, c0, c1, hp6, e6⟩ := draw_eq ns p5 r5 s5 J1 6 (by omega) (by omega) hp5
    rw [seq_nx (s5_yes e5 e6)]
    obtain ⟨p, hp⟩ : ∃ p : Par, p = ⟨24 - c, d, d + l, g, by omega, by omega, by omega, by omega, by omega⟩ := ⟨_, rfl⟩
    have q1 : p.T = 24 - c := by rw [hp]
    have q2 : p.D = d := by rw [hp]
    have q3 : p.L = d + l := by rw [hp]
    have q4 : p.g = g := by rw [hp]
    rw [← q1, ← q2, ← q4]
    exact law_rest (by omega) l0 (by omega) (by omega) (by omega) hp6
end G
set_option Elab.async false
set_option linter.all false
set_option maxRecDepth 100000
set_option maxHeartbeats 0
namespace G
open PySem PySem.Spec PyProof.Rows L2 FL
def ddlateness : He.DefD := ⟨("lateness", none), "lateness", "lateness", defArgs slateness, defBody slateness, defScope slateness, [], []⟩
def ddwait : He.DefD := ⟨("wait", none), "wait", "wait", defArgs swait, defBody swait, defScope swait, [], []⟩
def ddframes_of : He.DefD := ⟨("frames_of", none), "frames_of", "frames_of", defArgs sframes_of, defBody sframes_of, defScope sframes_of, [], []⟩
def ddis_int : He.DefD := ⟨("is_int", none), "is_int", "is_int", defArgs sis_int, defBody sis_int, defScope sis_int, [], []⟩
def ddis_row : He.DefD := ⟨("is_row", none), "is_row", "is_row", defArgs sis_row, defBody sis_row, defScope sis_row, [], []⟩
def ddis_ints : He.DefD := ⟨("is_ints", none), "is_ints", "is_ints", defArgs sis_ints, defBody sis_ints, defScope sis_ints, [], []⟩
def ddSpread__can_wait : He.DefD := ⟨("Spread", some "can_wait"), "can_wait", "Spread.can_wait", defArgs sSpread__can_wait, defBody sSpread__can_wait, defScope sSpread__can_wait, [], []⟩
def ddSpread__gain : He.DefD := ⟨("Spread", some "gain"), "gain", "Spread.gain", defArgs sSpread__gain, defBody sSpread__gain, defScope sSpread__gain, [], []⟩
def ddSpread__stamps : He.DefD := ⟨("Spread", some "stamps"), "stamps", "Spread.stamps", defArgs sSpread__stamps, defBody sSpread__stamps, defScope sSpread__stamps, [], []⟩
def ddSpread__is_over : He.DefD := ⟨("Spread", some "is_over"), "is_over", "Spread.is_over", defArgs sSpread__is_over, defBody sSpread__is_over, defScope sSpread__is_over, [], []⟩
def ddtotal_of : He.DefD := ⟨("total_of", none), "total_of", "total_of", defArgs stotal_of, defBody stotal_of, defScope stotal_of, [], []⟩
def ddbest_from : He.DefD := ⟨("best_from", none), "best_from", "best_from", defArgs sbest_from, defBody sbest_from, defScope sbest_from, [], []⟩
def ddrows_of : He.DefD := ⟨("rows_of", none), "rows_of", "rows_of", defArgs srows_of, defBody srows_of, defScope srows_of, [], []⟩
def ddfollowers : He.DefD := ⟨("followers", none), "followers", "followers", defArgs sfollowers, defBody sfollowers, defScope sfollowers, [], []⟩
def ddreachable : He.DefD := ⟨("reachable", none), "reachable", "reachable", defArgs sreachable, defBody sreachable, defScope sreachable, [], []⟩
def ddSpread____init__ : He.DefD := ⟨("Spread", some "__init__"), "__init__", "Spread.__init__", defArgs sSpread____init__, defBody sSpread____init__, defScope sSpread____init__, [], []⟩
def ddworst_bar : He.DefD := ⟨("worst_bar", none), "worst_bar", "worst_bar", defArgs sworst_bar, defBody sworst_bar, defScope sworst_bar, [], []⟩
def ddbar_table : He.DefD := ⟨("bar_table", none), "bar_table", "bar_table", defArgs sbar_table, defBody sbar_table, defScope sbar_table, [], []⟩
def ddis_closed : He.DefD := ⟨("is_closed", none), "is_closed", "is_closed", defArgs sis_closed, defBody sis_closed, defScope sis_closed, [], []⟩
def ddjudge_bar : He.DefD := ⟨("judge_bar", none), "judge_bar", "judge_bar", defArgs sjudge_bar, defBody sjudge_bar, defScope sjudge_bar, [], []⟩
def dd_law_draw : He.DefD := ⟨("_law_draw", none), "_law_draw", "_law_draw", defArgs s_law_draw, defBody s_law_draw, defScope s_law_draw, [], []⟩
def dd_law_pick : He.DefD := ⟨("_law_pick", none), "_law_pick", "_law_pick", defArgs s_law_pick, defBody s_law_pick, defScope s_law_pick, [], []⟩
def dd_law_rare : He.DefD := ⟨("_law_rare", none), "_law_rare", "_law_rare", defArgs s_law_rare, defBody s_law_rare, defScope s_law_rare, [], []⟩
def dd_law_shuffled : He.DefD := ⟨("_law_shuffled", none), "_law_shuffled", "_law_shuffled", defArgs s_law_shuffled, defBody s_law_shuffled, defScope s_law_shuffled, [], []⟩
def dd_law_is_int : He.DefD := ⟨("_law_is_int", none), "_law_is_int", "_law_is_int", defArgs s_law_is_int, defBody s_law_is_int, defScope s_law_is_int, [], []⟩
def dd_law_is_ints : He.DefD := ⟨("_law_is_ints", none), "_law_is_ints", "_law_is_ints", defArgs s_law_is_ints, defBody s_law_is_ints, defScope s_law_is_ints, [], []⟩
def dd_law_wait : He.DefD := ⟨("_law_wait", none), "_law_wait", "_law_wait", defArgs s_law_wait, defBody s_law_wait, defScope s_law_wait, [], []⟩
def dd_law_frames : He.DefD := ⟨("_law_frames", none), "_law_frames", "_law_frames", defArgs s_law_frames, defBody s_law_frames, defScope s_law_frames, [], []⟩
def dd_law_ways : He.DefD := ⟨("_law_ways", none), "_law_ways", "_law_ways", defArgs s_law_ways, defBody s_law_ways, defScope s_law_ways, [], []⟩
def dd_law_left : He.DefD := ⟨("_law_left", none), "_law_left", "_law_left", defArgs s_law_left, defBody s_law_left, defScope s_law_left, [], []⟩
def dd_law_totals : He.DefD := ⟨("_law_totals", none), "_law_totals", "_law_totals", defArgs s_law_totals, defBody s_law_totals, defScope s_law_totals, [], []⟩
def dd_law_bar_table : He.DefD := ⟨("_law_bar_table", none), "_law_bar_table", "_law_bar_table", defArgs s_law_bar_table, defBody s_law_bar_table, defScope s_law_bar_table, [], []⟩
def dd_law_is_bar : He.DefD := ⟨("_law_is_bar", none), "_law_is_bar", "_law_is_bar", defArgs s_law_is_bar, defBody s_law_is_bar, defScope s_law_is_bar, [], []⟩
def dd_law_right_rows : He.DefD := ⟨("_law_right_rows", none), "_law_right_rows", "_law_right_rows", defArgs s_law_right_rows, defBody s_law_right_rows, defScope s_law_right_rows, [], []⟩
def dd_law_wider_rows : He.DefD := ⟨("_law_wider_rows", none), "_law_wider_rows", "_law_wider_rows", defArgs s_law_wider_rows, defBody s_law_wider_rows, defScope s_law_wider_rows, [], []⟩
def dd_law_bent_rows : He.DefD := ⟨("_law_bent_rows", none), "_law_bent_rows", "_law_bent_rows", defArgs s_law_bent_rows, defBody s_law_bent_rows, defScope s_law_bent_rows, [], []⟩
def dd_law_odd_rows : He.DefD := ⟨("_law_odd_rows", none), "_law_odd_rows", "_law_odd_rows", defArgs s_law_odd_rows, defBody s_law_odd_rows, defScope s_law_odd_rows, [], []⟩
def dd_law_is_judged : He.DefD := ⟨("_law_is_judged", none), "_law_is_judged", "_law_is_judged", defArgs s_law_is_judged, defBody s_law_is_judged, defScope s_law_is_judged, [], []⟩
def dd_law_one_turn : He.DefD := ⟨("_law_one_turn", none), "_law_one_turn", "_law_one_turn", defArgs s_law_one_turn, defBody s_law_one_turn, defScope s_law_one_turn, [], []⟩
def dd_law_begin : He.DefD := ⟨("_law_begin", none), "_law_begin", "_law_begin", defArgs s_law_begin, defBody s_law_begin, defScope s_law_begin, [], []⟩
def ddlaw : He.DefD := ⟨("law", none), "law", "law", defArgs slaw, defBody slaw, defScope slaw, [], []⟩
def fn : List He.DefD := [ddlateness, ddwait, ddframes_of, ddis_int, ddis_row, ddis_ints, ddSpread__can_wait, ddSpread__gain, ddSpread__stamps, ddSpread__is_over, ddtotal_of, ddbest_from, ddrows_of, ddfollowers, ddreachable, ddSpread____init__, ddworst_bar, ddbar_table, ddis_closed, ddjudge_bar, dd_law_draw, dd_law_pick, dd_law_rare, dd_law_shuffled, dd_law_is_int, dd_law_is_ints, dd_law_wait, dd_law_frames, dd_law_ways, dd_law_left, dd_law_totals, dd_law_bar_table, dd_law_is_bar, dd_law_right_rows, dd_law_wider_rows, dd_law_bent_rows, dd_law_odd_rows, dd_law_is_judged, dd_law_one_turn, dd_law_begin, ddlaw]
def fa : List He.Fa := [.glo "lateness", .glo "wait", .glo "frames_of", .glo "is_int", .glo "is_row", .glo "is_ints", .glo "total_of", .glo "best_from", .glo "rows_of", .glo "followers", .glo "reachable", .glo "worst_bar", .glo "bar_table", .glo "is_closed", .glo "judge_bar", .glo "_law_draw", .glo "_law_pick", .glo "_law_rare", .glo "_law_shuffled", .glo "_law_is_int", .glo "_law_is_ints", .glo "_law_wait", .glo "_law_frames", .glo "_law_ways", .glo "_law_left", .glo "_law_totals", .glo "_law_bar_table", .glo "_law_is_bar", .glo "_law_right_rows", .glo "_law_wider_rows", .glo "_law_bent_rows", .glo "_law_odd_rows", .glo "_law_is_judged", .glo "_law_one_turn", .glo "_law_begin", .glo "law", .free "abs", .free "all", .free "bool", .free "int", .free "isinstance", .free "len", .free "list", .free "max", .free "min", .free "range", .free "sorted", .free "tuple", .glo "Spread", .cls "Spread", .mkr "Spread", .noat "Spread" "length", .noat "Spread" "delay", .noat "Spread" "late", .noat "Spread" "lag", .noat "Spread" "frames", .meth "Spread" "can_wait", .meth "Spread" "gain", .meth "Spread" "stamps", .meth "Spread" "is_over"]
def cnames : List Str := ["Spread"]
def cfl : List (List Str) := [["length", "delay", "late", "lag", "frames"]]
noncomputable def kmap (K : PySem.W.Frag) : KMap := ⟨fun C => He.ga K (cnames.getD C ""), fun C => cfl.getD C []⟩
abbrev R : PySem.W.OpenRow := PySem.W.OpenLaw.row PySem.Challenge.rw_judgedplay_k80_bars_judged
abbrev hk : PySem.W.Hook := He.hookD 6 fa fn
def ob (s : PySem.W.SharedT) : He.AlD := He.obsDG 6 fa fn (HandSHeadRun.getT s)
theorem ob_eq (s : PySem.W.SharedT) : ob s = hk.obs s.abs := He.obsDG_eq (HandSHeadRun.getT_eq s)
def loose : List PySem.Str := (["lateness", "wait", "frames_of", "is_int", "is_row", "is_ints", "rows_of", "total_of", "best_from", "followers", "reachable", "worst_bar", "bar_table", "is_closed", "judge_bar", "_law_begin", "_law_draw", "_law_pick", "_law_rare", "_law_shuffled"] : List PySem.Str) ++ (["_law_is_int", "_law_is_ints", "_law_wait", "_law_frames", "_law_ways", "_law_left", "_law_totals", "_law_bar_table", "_law_is_bar", "_law_right_rows", "_law_wider_rows", "_law_bent_rows", "_law_odd_rows", "_law_is_judged", "_law_one_turn", "Spread"] : List PySem.Str)
theorem run (w : World) : HandSHeadRun.RunEq R (PySem.W.view R.prog [40]) hk ob 2240 loose w := by
  intro os
  kernel_rfl
theorem facts {P : Program} {w : World} {K : PySem.W.Frag} {h : Heap} {mg : Str → Option Value} {f : Addr} (X : K.In h) (G : h.Ns mainGlobals mg) (hfa : mg ("law" : Str) = some (.ref f)) (c : He.SaysD fa fn K) :
    ∃ fd : FuncData, (∀ (s : Shared) (v : Value), BindsTo s fd ⟨[v], []⟩ [("script", v)]) ∧ ∀ base : Heap, K.In base → base.Ns mainGlobals mg → FnOk P w K mg base CX0 8 f fd ["script"] (spLaw K) := by
  letI : KMap := kmap K
  obtain ⟨fdlateness, Flateness⟩ := c.def_ 0 (d := ddlateness) rfl
  obtain ⟨fdwait, Fwait⟩ := c.def_ 1 (d := ddwait) rfl
  obtain ⟨fdframes_of, Fframes_of⟩ := c.def_ 2 (d := ddframes_of) rfl
  obtain ⟨fdis_int, Fis_int⟩ := c.def_ 3 (d := ddis_int) rfl
  obtain ⟨fdis_row, Fis_row⟩ := c.def_ 4 (d := ddis_row) rfl
  obtain ⟨fdis_ints, Fis_ints⟩ := c.def_ 5 (d := ddis_ints) rfl
  obtain ⟨fdSpread__can_wait, FSpread__can_wait⟩ := c.def_ 6 (d := ddSpread__can_wait) rfl
  obtain ⟨fdSpread__gain, FSpread__gain⟩ := c.def_ 7 (d := ddSpread__gain) rfl
  obtain ⟨fdSpread__stamps, FSpread__stamps⟩ := c.def_ 8 (d := ddSpread__stamps) rfl
  obtain ⟨fdSpread__is_over, FSpread__is_over⟩ := c.def_ 9 (d := ddSpread__is_over) rfl
  obtain ⟨fdtotal_of, Ftotal_of⟩ := c.def_ 10 (d := ddtotal_of) rfl
  obtain ⟨fdbest_from, Fbest_from⟩ := c.def_ 11 (d := ddbest_from) rfl
  obtain ⟨fdrows_of, Frows_of⟩ := c.def_ 12 (d := ddrows_of) rfl
  obtain ⟨fdfollowers, Ffollowers⟩ := c.def_ 13 (d := ddfollowers) rfl
  obtain ⟨fdreachable, Freachable⟩ := c.def_ 14 (d := ddreachable) rfl
  obtain ⟨fdSpread____init__, FSpread____init__⟩ := c.def_ 15 (d := ddSpread____init__) rfl
  obtain ⟨fdworst_bar, Fworst_bar⟩ := c.def_ 16 (d := ddworst_bar) rfl
  obtain ⟨fdbar_table, Fbar_table⟩ := c.def_ 17 (d := ddbar_table) rfl
  obtain ⟨fdis_closed, Fis_closed⟩ := c.def_ 18 (d := ddis_closed) rfl
  obtain ⟨fdjudge_bar, Fjudge_bar⟩ := c.def_ 19 (d := ddjudge_bar) rfl
  obtain ⟨fd_law_draw, F_law_draw⟩ := c.def_ 20 (d := dd_law_draw) rfl
  obtain ⟨fd_law_pick, F_law_pick⟩ := c.def_ 21 (d := dd_law_pick) rfl
  obtain ⟨fd_law_rare, F_law_rare⟩ := c.def_ 22 (d := dd_law_rare) rfl
  obtain ⟨fd_law_shuffled, F_law_shuffled⟩ := c.def_ 23 (d := dd_law_shuffled) rfl
  obtain ⟨fd_law_is_int, F_law_is_int⟩ := c.def_ 24 (d := dd_law_is_int) rfl
  obtain ⟨fd_law_is_ints, F_law_is_ints⟩ := c.def_ 25 (d := dd_law_is_ints) rfl
  obtain ⟨fd_law_wait, F_law_wait⟩ := c.def_ 26 (d := dd_law_wait) rfl
  obtain ⟨fd_law_frames, F_law_frames⟩ := c.def_ 27 (d := dd_law_frames) rfl
  obtain ⟨fd_law_ways, F_law_ways⟩ := c.def_ 28 (d := dd_law_ways) rfl
  obtain ⟨fd_law_left, F_law_left⟩ := c.def_ 29 (d := dd_law_left) rfl
  obtain ⟨fd_law_totals, F_law_totals⟩ := c.def_ 30 (d := dd_law_totals) rfl
  obtain ⟨fd_law_bar_table, F_law_bar_table⟩ := c.def_ 31 (d := dd_law_bar_table) rfl
  obtain ⟨fd_law_is_bar, F_law_is_bar⟩ := c.def_ 32 (d := dd_law_is_bar) rfl
  obtain ⟨fd_law_right_rows, F_law_right_rows⟩ := c.def_ 33 (d := dd_law_right_rows) rfl
  obtain ⟨fd_law_wider_rows, F_law_wider_rows⟩ := c.def_ 34 (d := dd_law_wider_rows) rfl
  obtain ⟨fd_law_bent_rows, F_law_bent_rows⟩ := c.def_ 35 (d := dd_law_bent_rows) rfl
  obtain ⟨fd_law_odd_rows, F_law_odd_rows⟩ := c.def_ 36 (d := dd_law_odd_rows) rfl
  obtain ⟨fd_law_is_judged, F_law_is_judged⟩ := c.def_ 37 (d := dd_law_is_judged) rfl
  obtain ⟨fd_law_one_turn, F_law_one_turn⟩ := c.def_ 38 (d := dd_law_one_turn) rfl
  obtain ⟨fd_law_begin, F_law_begin⟩ := c.def_ 39 (d := dd_law_begin) rfl
  obtain ⟨fdlaw, Flaw⟩ := c.def_ 40 (d := ddlaw) rfl
  have glateness := He.glo_ok X G (c.fact 0 (f := .glo "lateness") rfl)
  have gwait := He.glo_ok X G (c.fact 1 (f := .glo "wait") rfl)
  have gframes_of := He.glo_ok X G (c.fact 2 (f := .glo "frames_of") rfl)
  have gis_int := He.glo_ok X G (c.fact 3 (f := .glo "is_int") rfl)
  have gis_row := He.glo_ok X G (c.fact 4 (f := .glo "is_row") rfl)
  have gis_ints := He.glo_ok X G (c.fact 5 (f := .glo "is_ints") rfl)
  have gtotal_of := He.glo_ok X G (c.fact 6 (f := .glo "total_of") rfl)
  have gbest_from := He.glo_ok X G (c.fact 7 (f := .glo "best_from") rfl)
  have grows_of := He.glo_ok X G (c.fact 8 (f := .glo "rows_of") rfl)
  have gfollowers := He.glo_ok X G (c.fact 9 (f := .glo "followers") rfl)
  have greachable := He.glo_ok X G (c.fact 10 (f := .glo "reachable") rfl)
  have gworst_bar := He.glo_ok X G (c.fact 11 (f := .glo "worst_bar") rfl)
  have gbar_table := He.glo_ok X G (c.fact 12 (f := .glo "bar_table") rfl)
  have gis_closed := He.glo_ok X G (c.fact 13 (f := .glo "is_closed") rfl)
  have gjudge_bar := He.glo_ok X G (c.fact 14 (f := .glo "judge_bar") rfl)
  have g_law_draw := He.glo_ok X G (c.fact 15 (f := .glo "_law_draw") rfl)
  have g_law_pick := He.glo_ok X G (c.fact 16 (f := .glo "_law_pick") rfl)
  have g_law_rare := He.glo_ok X G (c.fact 17 (f := .glo "_law_rare") rfl)
  have g_law_shuffled := He.glo_ok X G (c.fact 18 (f := .glo "_law_shuffled") rfl)
  have g_law_is_int := He.glo_ok X G (c.fact 19 (f := .glo "_law_is_int") rfl)
  have g_law_is_ints := He.glo_ok X G (c.fact 20 (f := .glo "_law_is_ints") rfl)
  have g_law_wait := He.glo_ok X G (c.fact 21 (f := .glo "_law_wait") rfl)
  have g_law_frames := He.glo_ok X G (c.fact 22 (f := .glo "_law_frames") rfl)
  have g_law_ways := He.glo_ok X G (c.fact 23 (f := .glo "_law_ways") rfl)
  have g_law_left := He.glo_ok X G (c.fact 24 (f := .glo "_law_left") rfl)
  have g_law_totals := He.glo_ok X G (c.fact 25 (f := .glo "_law_totals") rfl)
  have g_law_bar_table := He.glo_ok X G (c.fact 26 (f := .glo "_law_bar_table") rfl)
  have g_law_is_bar := He.glo_ok X G (c.fact 27 (f := .glo "_law_is_bar") rfl)
  have g_law_right_rows := He.glo_ok X G (c.fact 28 (f := .glo "_law_right_rows") rfl)
  have g_law_wider_rows := He.glo_ok X G (c.fact 29 (f := .glo "_law_wider_rows") rfl)
  have g_law_bent_rows := He.glo_ok X G (c.fact 30 (f := .glo "_law_bent_rows") rfl)
  have g_law_odd_rows := He.glo_ok X G (c.fact 31 (f := .glo "_law_odd_rows") rfl)
  have g_law_is_judged := He.glo_ok X G (c.fact 32 (f := .glo "_law_is_judged") rfl)
  have g_law_one_turn := He.glo_ok X G (c.fact 33 (f := .glo "_law_one_turn") rfl)
  have g_law_begin := He.glo_ok X G (c.fact 34 (f := .glo "_law_begin") rfl)
  have glaw := He.glo_ok X G (c.fact 35 (f := .glo "law") rfl)
  have b_abs := He.free_ok X G (c.fact 36 (f := .free "abs") rfl)
  have b_all := He.free_ok X G (c.fact 37 (f := .free "all") rfl)
  have b_bool := He.free_ok X G (c.fact 38 (f := .free "bool") rfl)
  have b_int := He.free_ok X G (c.fact 39 (f := .free "int") rfl)
  have b_isinstance := He.free_ok X G (c.fact 40 (f := .free "isinstance") rfl)
  have b_len := He.free_ok X G (c.fact 41 (f := .free "len") rfl)
  have b_list := He.free_ok X G (c.fact 42 (f := .free "list") rfl)
  have b_max := He.free_ok X G (c.fact 43 (f := .free "max") rfl)
  have b_min := He.free_ok X G (c.fact 44 (f := .free "min") rfl)
  have b_range := He.free_ok X G (c.fact 45 (f := .free "range") rfl)
  have b_sorted := He.free_ok X G (c.fact 46 (f := .free "sorted") rfl)
  have b_tuple := He.free_ok X G (c.fact 47 (f := .free "tuple") rfl)
  have gSpread := He.glo_ok X G (c.fact 48 (f := .glo "Spread") rfl)
  have cSpread := He.cls_ok (c.fact 49 (f := .cls "Spread") rfl)
  have mkSpread := He.mkr_ok (c.fact 50 (f := .mkr "Spread") rfl)
  have nSpread_length := He.noat_ok (c.fact 51 (f := .noat "Spread" "length") rfl)
  have nSpread_delay := He.noat_ok (c.fact 52 (f := .noat "Spread" "delay") rfl)
  have nSpread_late := He.noat_ok (c.fact 53 (f := .noat "Spread" "late") rfl)
  have nSpread_lag := He.noat_ok (c.fact 54 (f := .noat "Spread" "lag") rfl)
  have nSpread_frames := He.noat_ok (c.fact 55 (f := .noat "Spread" "frames") rfl)
  have mSpread__can_wait := He.meth_ok (c.fact 56 (f := .meth "Spread" "can_wait") rfl)
  have mSpread__gain := He.meth_ok (c.fact 57 (f := .meth "Spread" "gain") rfl)
  have mSpread__stamps := He.meth_ok (c.fact 58 (f := .meth "Spread" "stamps") rfl)
  have mSpread__is_over := He.meth_ok (c.fact 59 (f := .meth "Spread" "is_over") rfl)
  have B : Bi mg := ⟨b_abs, b_all, b_bool, b_int, b_isinstance, b_len, b_list, b_max, b_min, b_range, b_sorted, b_tuple⟩
  have FSpread_length : FldOk K 0 0 "length" := ⟨cSpread, nSpread_length, rfl, (by decide +kernel : (["length", "delay", "late", "lag", "frames"] : List Str).Nodup)⟩
  have FSpread_delay : FldOk K 0 1 "delay" := ⟨cSpread, nSpread_delay, rfl, (by decide +kernel : (["length", "delay", "late", "lag", "frames"] : List Str).Nodup)⟩
  have FSpread_late : FldOk K 0 2 "late" := ⟨cSpread, nSpread_late, rfl, (by decide +kernel : (["length", "delay", "late", "lag", "frames"] : List Str).Nodup)⟩
  have FSpread_lag : FldOk K 0 3 "lag" := ⟨cSpread, nSpread_lag, rfl, (by decide +kernel : (["length", "delay", "late", "lag", "frames"] : List Str).Nodup)⟩
  have FSpread_frames : FldOk K 0 4 "frames" := ⟨cSpread, nSpread_frames, rfl, (by decide +kernel : (["length", "delay", "late", "lag", "frames"] : List Str).Nodup)⟩
  have e := hfa.symm.trans glaw
  cases e
  have b := FunD.bindsA (ps := ["script"]) Flaw fun _ _ _ _ _ _ us hl => match us, hl with | [_], _ => rfl
  refine ⟨fdlaw, fun s v => b s [v] rfl, fun base _ _ => ?_⟩
  have Dlateness := oklateness (P := P) (w := w) (base := base) B Flateness glateness 
  have Dwait := okwait (P := P) (w := w) (base := base) B Fwait gwait 
  have Dframes_of := okframes_of (P := P) (w := w) (base := base) B Fframes_of gframes_of Dwait
  have Dis_int := okis_int (P := P) (w := w) (base := base) B Fis_int gis_int 
  have Dis_row := okis_row (P := P) (w := w) (base := base) B Fis_row gis_row 
  have Dis_ints := okis_ints (P := P) (w := w) (base := base) B Fis_ints gis_ints Dis_int
  have DSpread__can_wait := okSpread__can_wait (P := P) (w := w) (base := base) B FSpread__can_wait cSpread mSpread__can_wait (by decide +kernel : ("can_wait" : Str) ∉ (["length", "delay", "late", "lag", "frames"] : List Str)) FSpread_late
  have DSpread__gain := okSpread__gain (P := P) (w := w) (base := base) B FSpread__gain cSpread mSpread__gain (by decide +kernel : ("gain" : Str) ∉ (["length", "delay", "late", "lag", "frames"] : List Str)) FSpread_length FSpread_lag
  have DSpread__stamps := okSpread__stamps (P := P) (w := w) (base := base) B FSpread__stamps cSpread mSpread__stamps (by decide +kernel : ("stamps" : Str) ∉ (["length", "delay", "late", "lag", "frames"] : List Str)) FSpread_delay
  have DSpread__is_over := okSpread__is_over (P := P) (w := w) (base := base) B FSpread__is_over cSpread mSpread__is_over (by decide +kernel : ("is_over" : Str) ∉ (["length", "delay", "late", "lag", "frames"] : List Str)) FSpread_lag FSpread_length
  have Dtotal_of := oktotal_of (P := P) (w := w) (base := base) B Ftotal_of gtotal_of DSpread__is_over
  have Dbest_from := okbest_from (P := P) (w := w) (base := base) B Fbest_from gbest_from DSpread__can_wait Dtotal_of DSpread__gain DSpread__stamps FSpread_frames
  have Drows_of := okrows_of (P := P) (w := w) (base := base) B Frows_of grows_of DSpread__is_over Dbest_from FSpread_frames FSpread_late
  have Dfollowers := okfollowers (P := P) (w := w) (base := base) B Ffollowers gfollowers DSpread__can_wait DSpread__stamps DSpread__gain
  have Dreachable := okreachable (P := P) (w := w) (base := base) B Freachable greachable DSpread__is_over Dfollowers FSpread_frames
  have DSpread____init__ := okSpread____init__ (P := P) (w := w) (base := base) B FSpread____init__ mkSpread gSpread Dlateness Dframes_of FSpread_length FSpread_delay FSpread_late FSpread_lag FSpread_frames
  have Dworst_bar := okworst_bar (P := P) (w := w) (base := base) B Fworst_bar gworst_bar DSpread____init__ Drows_of Dreachable
  have Dbar_table := okbar_table (P := P) (w := w) (base := base) B Fbar_table gbar_table Dis_row Dis_ints
  have Dis_closed := okis_closed (P := P) (w := w) (base := base) B Fis_closed gis_closed DSpread__is_over Dfollowers FSpread_frames
  have Djudge_bar := okjudge_bar (P := P) (w := w) (base := base) B Fjudge_bar gjudge_bar DSpread____init__ Dbar_table Dis_int DSpread__is_over Dis_closed
  have D_law_draw := ok_law_draw (P := P) (w := w) (base := base) B F_law_draw g_law_draw 
  have D_law_pick := ok_law_pick (P := P) (w := w) (base := base) B F_law_pick g_law_pick D_law_draw
  have D_law_rare := ok_law_rare (P := P) (w := w) (base := base) B F_law_rare g_law_rare D_law_draw
  have D_law_shuffled := ok_law_shuffled (P := P) (w := w) (base := base) B F_law_shuffled g_law_shuffled D_law_draw
  have D_law_is_int := ok_law_is_int (P := P) (w := w) (base := base) B F_law_is_int g_law_is_int 
  have D_law_is_ints := ok_law_is_ints (P := P) (w := w) (base := base) B F_law_is_ints g_law_is_ints D_law_is_int
  have D_law_wait := ok_law_wait (P := P) (w := w) (base := base) B F_law_wait g_law_wait 
  have D_law_frames := ok_law_frames (P := P) (w := w) (base := base) B F_law_frames g_law_frames D_law_wait
  have D_law_ways := ok_law_ways (P := P) (w := w) (base := base) B F_law_ways g_law_ways 
  have D_law_left := ok_law_left (P := P) (w := w) (base := base) B F_law_left g_law_left 
  have D_law_totals := ok_law_totals (P := P) (w := w) (base := base) B F_law_totals g_law_totals D_law_ways D_law_left
  have D_law_bar_table := ok_law_bar_table (P := P) (w := w) (base := base) B F_law_bar_table g_law_bar_table D_law_is_ints
  have D_law_is_bar := ok_law_is_bar (P := P) (w := w) (base := base) B F_law_is_bar g_law_is_bar D_law_frames D_law_bar_table D_law_is_int D_law_ways
  have D_law_right_rows := ok_law_right_rows (P := P) (w := w) (base := base) B F_law_right_rows g_law_right_rows D_law_draw D_law_frames
  have D_law_wider_rows := ok_law_wider_rows (P := P) (w := w) (base := base) B F_law_wider_rows g_law_wider_rows D_law_frames D_law_bar_table D_law_pick D_law_draw D_law_ways
  have D_law_bent_rows := ok_law_bent_rows (P := P) (w := w) (base := base) B F_law_bent_rows g_law_bent_rows D_law_draw D_law_pick D_law_frames
  have D_law_odd_rows := ok_law_odd_rows (P := P) (w := w) (base := base) B F_law_odd_rows g_law_odd_rows D_law_draw D_law_pick
  have D_law_is_judged := ok_law_is_judged (P := P) (w := w) (base := base) B F_law_is_judged g_law_is_judged Djudge_bar D_law_is_bar
  have D_law_one_turn := ok_law_one_turn (P := P) (w := w) (base := base) B F_law_one_turn g_law_one_turn D_law_right_rows D_law_wider_rows D_law_draw D_law_bent_rows D_law_odd_rows D_law_pick D_law_shuffled D_law_is_judged
  exact oklaw B Flaw F_law_begin g_law_begin D_law_draw D_law_pick D_law_rare D_law_totals Dworst_bar D_law_is_ints D_law_left D_law_shuffled D_law_is_judged D_law_one_turn law_math
end G
open PySem PySem.W PySem.Calls PyProof.Rows
set_option maxRecDepth 100000 in
set_option maxHeartbeats 0 in
theorem PySem.Challenge.cw_judgedplay_k80_bars_judged_holds : PySem.Challenge.rw_judgedplay_k80_bars_judged.Holds := by
  w_on; o_law
  refine HandSHeadRun.head_any (r := OpenLaw.row PySem.Challenge.rw_judgedplay_k80_bars_judged) (q := view (OpenLaw.row PySem.Challenge.rw_judgedplay_k80_bars_judged).prog [40]) (H := G.hk) (ob := G.ob) (M := 2240) (loose := G.loose) (d := HandSHeadRun.topDef (OpenLaw.row PySem.Challenge.rw_judgedplay_k80_bars_judged).prog 40) (kwd := []) G.ob_eq
    (by kernel_rfl) (fun s => by kernel_rfl) G.run (by kernel_rfl) (by kernel_rfl) (by kernel_rfl) (by rfl) (by first | assumption | decide +kernel) (by decide +kernel) ⟨rfl, rfl, rfl, rfl, rfl, by decide +kernel⟩ ?hw ?hc
  case hw => w_witness2
  case hc =>
    refine L2.walk_ofE (l := PySem.Challenge.rw_judgedplay_k80_bars_judged) (n := 63) (k := 8) (x := "script") (CX := L2.CX0) rfl (by decide) (by kernel_rfl) ⟨rfl, by decide, by decide⟩ ?F (fun _ _ _ _ z => z)
    intro w mg fa h Y Gn hmg0
    obtain ⟨K, KX, c⟩ := Y
    have hmg : mg ("law" : PySem.Str) = some (.ref fa) := by
      have e : (HandSHeadRun.topDef (OpenLaw.row PySem.Challenge.rw_judgedplay_k80_bars_judged).prog 40).name = ("law" : PySem.Str) := by kernel_rfl
      rw [← e]
      exact hmg0
    obtain ⟨fd, hb, hF⟩ := G.facts (P := (PySem.Challenge.rw_judgedplay_k80_bars_judged).prog) (w := w) KX Gn hmg c
    exact ⟨K, fd, FL.spLaw K, KX, hb, fun H a ns hl _ hS => ⟨a, ns, rfl, hS, hl, fun _ => rfl⟩, hF⟩
