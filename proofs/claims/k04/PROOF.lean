import PyProof.Rows.All
import Wide.All
import OpenK.AllK
import Wide.FinOn
import HandS.Base
import HandS.Call
import HandS.List
import HandS.Comp
import HandS.Dict
import HandS.Iter
import HandS.Text
import HandS.Exc
import HandS.TryOnly
import HandS.ExcOwn
import HandS.Ends
import HandS.Words
import HandS.ForMost
import HandS.TupAny
import HandS.Style
import HandS.Wide
import HandS.IsInst
import HandS.Deep
import HandS.More
import HandS.RaiseMore
import HandS.SetFor
import KE.SortData
import HandS.TryMany
import HandS.WordsExc
import HandS.ExcIs
import HandS.Zip
import HandS.Rev
import KE.GoesEnum
import KE.GoesMore
import HandS.SetKeys
import HandS.RevRange
import PySem.Challenge.RW_talejudge_k04_queues
set_option Elab.async false
set_option linter.all false
set_option maxRecDepth 100000
/-! RL: total functions over plain data, tied to the hand layer's readings. -/
namespace RL
open PySem PySem.Spec PyProof.Rows L2

/-! ### data, objects, store, results -/
inductive D where
  | non | bl (b : Bool) | int (i : Int) | str (x : Str) | tup (xs : List D) | scr (xs : List D) | ref (n : Nat)
  deriving Inhabited

mutual
def D.dec : (a b : D) → Decidable (a = b)
  | .non, .non => .isTrue rfl
  | .bl a, .bl b => if h : a = b then .isTrue (by rw [h]) else .isFalse (fun e => by cases e; exact h rfl)
  | .int a, .int b => if h : a = b then .isTrue (by rw [h]) else .isFalse (fun e => by cases e; exact h rfl)
  | .str a, .str b => if h : a = b then .isTrue (by rw [h]) else .isFalse (fun e => by cases e; exact h rfl)
  | .tup a, .tup b => match D.decL a b with
    | .isTrue h => .isTrue (by rw [h])
    | .isFalse h => .isFalse (fun e => by cases e; exact h rfl)
  | .scr a, .scr b => match D.decL a b with
    | .isTrue h => .isTrue (by rw [h])
    | .isFalse h => .isFalse (fun e => by cases e; exact h rfl)
  | .ref a, .ref b => if h : a = b then .isTrue (by rw [h]) else .isFalse (fun e => by cases e; exact h rfl)
  | .non, .bl _ | .non, .int _ | .non, .str _ | .non, .tup _ | .non, .scr _ | .non, .ref _ => .isFalse (fun e => by cases e)
  | .bl _, .non | .bl _, .int _ | .bl _, .str _ | .bl _, .tup _ | .bl _, .scr _ | .bl _, .ref _ => .isFalse (fun e => by cases e)
  | .int _, .non | .int _, .bl _ | .int _, .str _ | .int _, .tup _ | .int _, .scr _ | .int _, .ref _ => .isFalse (fun e => by cases e)
  | .str _, .non | .str _, .bl _ | .str _, .int _ | .str _, .tup _ | .str _, .scr _ | .str _, .ref _ => .isFalse (fun e => by cases e)
  | .tup _, .non | .tup _, .bl _ | .tup _, .int _ | .tup _, .str _ | .tup _, .scr _ | .tup _, .ref _ => .isFalse (fun e => by cases e)
  | .scr _, .non | .scr _, .bl _ | .scr _, .int _ | .scr _, .str _ | .scr _, .tup _ | .scr _, .ref _ => .isFalse (fun e => by cases e)
  | .ref _, .non | .ref _, .bl _ | .ref _, .int _ | .ref _, .str _ | .ref _, .tup _ | .ref _, .scr _ => .isFalse (fun e => by cases e)
def D.decL : (a b : List D) → Decidable (a = b)
  | [], [] => .isTrue rfl
  | [], _ :: _ => .isFalse (fun e => by cases e)
  | _ :: _, [] => .isFalse (fun e => by cases e)
  | x :: xs, y :: ys => match D.dec x y, D.decL xs ys with
    | .isTrue h, .isTrue g => .isTrue (by rw [h, g])
    | .isFalse h, _ => .isFalse (fun e => by cases e; exact h rfl)
    | _, .isFalse h => .isFalse (fun e => by cases e; exact h rfl)
end
instance : DecidableEq D := D.dec

inductive O where
  | lst (xs : List D) | dict (kvs : List (D × D)) | ins (c : Str) (fs : List (Str × D)) | fd (kvs : List (D × D))
  deriving Inhabited, DecidableEq
abbrev Sto := List O
inductive R (α : Type) where | ok (a : α) (S : Sto) | exc (c : Str) (S : Sto) | err
def R.bind {α β : Type} : R α → (α → Sto → R β) → R β
  | .ok a S, k => k a S
  | .exc c S, _ => .exc c S
  | .err, _ => .err
@[simp] theorem R.bind_ok {α β : Type} (a : α) (S : Sto) (k : α → Sto → R β) : R.bind (.ok a S) k = k a S := rfl
@[simp] theorem R.bind_exc {α β : Type} (c : Str) (S : Sto) (k : α → Sto → R β) : R.bind (.exc c S) k = .exc c S := rfl
@[simp] theorem R.bind_err {α β : Type} (k : α → Sto → R β) : R.bind .err k = .err := rfl
abbrev Env := List (Option D)
abbrev DE := Env → Sto → R D
abbrev DT := Env → Sto → R Bool
abbrev DA := Env → Sto → R (List D)
inductive Fl where | nx (e : Env) (S : Sto) | rt (d : D) (S : Sto) | bk (e : Env) (S : Sto) | ct (e : Env) (S : Sto) | exc (c : Str) (e : Env) (S : Sto) | err
abbrev DS := Env → Sto → Fl

/-! ### how data stand in the abstract heap -/
abbrev Fg := PySem.W.Frag
abbrev Mg := Str → Option Value
/-- a list that nobody writes -/
def FzL (K : Fg) (H : Hp) (a : Addr) (vs : List V) : Prop := (∃ o, H a = some (.frz o (.lst vs))) ∨
    ∃ (o : Obj) (its : Array Value) (n : Nat), K.lookup a = some o ∧ o.cls = .type "list" ∧ o.dict = none ∧ o.data = .seq its n ∧ its.size ≤ sizeLine ∧ Vals vs its.toList
theorem FzL.sq {K : Fg} {H : Hp} {a : Addr} {vs : List V} (h : FzL K H a vs) : SqL K H a vs := by
  rcases h with ⟨o, h⟩ | h
  · exact .inl (.inr ⟨o, h⟩)
  · exact .inr h

mutual
inductive Rep (K : Fg) (ρ : List Addr) (H : Hp) : V → D → Prop
  | non : Rep K ρ H .non .non
  | bl (b : Bool) : Rep K ρ H (.bl b) (.bl b)
  | int (i : Int) : Rep K ρ H (.int i) (.int i)
  | str (x : Str) : Rep K ρ H (.str x) (.str x)
  | tup {a : Addr} {xs : List V} {ds : List D} : SqT K H a xs → RepL K ρ H xs ds → Rep K ρ H (.ref a) (.tup ds)
  | scr {a : Addr} {xs : List V} {ds : List D} : FzL K H a xs → RepL K ρ H xs ds → Rep K ρ H (.ref a) (.scr ds)
  | ref {n : Nat} {a : Addr} : ρ[n]? = some a → Rep K ρ H (.ref a) (.ref n)
inductive RepL (K : Fg) (ρ : List Addr) (H : Hp) : List V → List D → Prop
  | nil : RepL K ρ H [] []
  | cons {v : V} {vs : List V} {d : D} {ds : List D} : Rep K ρ H v d → RepL K ρ H vs ds → RepL K ρ H (v :: vs) (d :: ds)
end

/-- from one state to a later one -/
structure Stp (ρ : List Addr) (H : Hp) (ρ' : List Addr) (H' : Hp) : Prop where
  ext : ∃ l, ρ' = ρ ++ l
  new : ∀ a, a ∈ ρ' → a ∈ ρ ∨ H a = none
  old : ∀ a o, a ∉ ρ → H a = some o → H' a = some o
  frz : ∀ a o u, H a = some (.frz o u) → H' a = some (.frz o u)
  tup : ∀ a xs, H a = some (.tup xs) → H' a = some (.tup xs)
theorem Stp.refl (ρ : List Addr) (H : Hp) : Stp ρ H ρ H := ⟨⟨[], by simp⟩, fun _ h => .inl h, fun _ _ _ h => h, fun _ _ _ h => h, fun _ _ h => h⟩
theorem Stp.trans {ρ ρ1 ρ2 : List Addr} {H H1 H2 : Hp} (a : Stp ρ H ρ1 H1) (b : Stp ρ1 H1 ρ2 H2) : Stp ρ H ρ2 H2 where
  ext := by
    obtain ⟨l, rfl⟩ := a.ext
    obtain ⟨m, rfl⟩ := b.ext
    exact ⟨l ++ m, by rw [List.append_assoc]⟩
  new := fun x hx => by
    rcases b.new x hx with h | h
    · exact a.new x h
    · by_cases hr : x ∈ ρ
      · exact .inl hr
      · refine .inr ?_
        cases e : H x with
        | none => rfl
        | some o => rw [a.old x o hr e] at h; cases h
  old := fun x o hx e => b.old x o (fun h => (a.new x h).elim hx fun z => by rw [e] at z; cases z) (a.old x o hx e)
  frz := fun x o u e => b.frz x o u (a.frz x o u e)
  tup := fun x xs e => b.tup x xs (a.tup x xs e)
theorem Stp.at {ρ ρ1 : List Addr} {H H1 : Hp} (s : Stp ρ H ρ1 H1) {n : Nat} {a : Addr} (h : ρ[n]? = some a) : ρ1[n]? = some a := by
  obtain ⟨l, rfl⟩ := s.ext
  obtain ⟨q, _⟩ := List.getElem?_eq_some_iff.mp h
  rw [List.getElem?_append_left q]; exact h
theorem Stp.sqT {K : Fg} {ρ ρ1 : List Addr} {H H1 : Hp} (s : Stp ρ H ρ1 H1) {a : Addr} {xs : List V} (h : SqT K H a xs) : SqT K H1 a xs := by
  rcases h with (h | ⟨o, h⟩) | h
  · exact .inl (.inl (s.tup _ _ h))
  · exact .inl (.inr ⟨o, s.frz _ _ _ h⟩)
  · exact .inr h
theorem Stp.fz {K : Fg} {ρ ρ1 : List Addr} {H H1 : Hp} (s : Stp ρ H ρ1 H1) {a : Addr} {xs : List V} (h : FzL K H a xs) : FzL K H1 a xs := by
  rcases h with ⟨o, h⟩ | h
  · exact .inl ⟨o, s.frz _ _ _ h⟩
  · exact .inr h
mutual
theorem Rep.mono {K : Fg} {ρ ρ1 : List Addr} {H H1 : Hp} (s : Stp ρ H ρ1 H1) : ∀ {d : D} {v : V}, Rep K ρ H v d → Rep K ρ1 H1 v d
  | .non, _, .non => .non
  | .bl _, _, .bl b => .bl b
  | .int _, _, .int b => .int b
  | .str _, _, .str b => .str b
  | .tup _, _, .tup h l => .tup (s.sqT h) (RepL.mono s l)
  | .scr _, _, .scr h l => .scr (s.fz h) (RepL.mono s l)
  | .ref _, _, .ref h => .ref (s.at h)
theorem RepL.mono {K : Fg} {ρ ρ1 : List Addr} {H H1 : Hp} (s : Stp ρ H ρ1 H1) : ∀ {ds : List D} {vs : List V}, RepL K ρ H vs ds → RepL K ρ1 H1 vs ds
  | [], _, .nil => .nil
  | _ :: _, _, .cons h l => .cons (Rep.mono s h) (RepL.mono s l)
end

def keyD : Key → D
  | .inl i => .int i
  | .inr x => .str x
inductive RepKV (K : Fg) (ρ : List Addr) (H : Hp) : List (Key × V) → List (D × D) → Prop
  | nil : RepKV K ρ H [] []
  | cons {k : Key} {v : V} {d : D} {ks : List (Key × V)} {kvs : List (D × D)} : Rep K ρ H v d → RepKV K ρ H ks kvs → RepKV K ρ H ((k, v) :: ks) ((keyD k, d) :: kvs)
theorem RepKV.mono {K : Fg} {ρ ρ1 : List Addr} {H H1 : Hp} (s : Stp ρ H ρ1 H1) : ∀ {kvs : List (D × D)} {ks : List (Key × V)}, RepKV K ρ H ks kvs → RepKV K ρ1 H1 ks kvs
  | _, _, .nil => .nil
  | _, _, .cons r t => .cons (r.mono s) (RepKV.mono s t)
/-- an object -/
def ORep (K : Fg) (mg : Mg) (ρ : List Addr) (H : Hp) (a : Addr) : O → Prop
  | .lst ds => ∃ xs, H a = some (.lst xs) ∧ RepL K ρ H xs ds
  | .dict kvs => ∃ ks : List (Key × V), H a = some (.dK ks) ∧ RepKV K ρ H ks kvs
  | .ins c fs => ∃ C dx gs, mg c = some (.ref C) ∧ H a = some (.ins C dx gs) ∧ gs.map (·.1) = fs.map (·.1) ∧ RepL K ρ H (gs.map (·.2)) (fs.map (·.2))
  | .fd kvs => ∃ (ks : List (Key × V)) (ob : Obj), H a = some (.frz ob (.dK ks)) ∧ RepKV K ρ H ks kvs
theorem ORep.there {K : Fg} {mg : Mg} {ρ : List Addr} {H : Hp} {a : Addr} {o : O} (h : ORep K mg ρ H a o) : ∃ u, H a = some u := by
  cases o with
  | lst ds => obtain ⟨xs, e, _⟩ := h; exact ⟨_, e⟩
  | dict ds => obtain ⟨xs, e, _⟩ := h; exact ⟨_, e⟩
  | ins c fs => obtain ⟨C, dx, gs, _, e, _⟩ := h; exact ⟨_, e⟩
  | fd ds => obtain ⟨xs, ob, e, _⟩ := h; exact ⟨_, e⟩
theorem ORep.mono {K : Fg} {mg : Mg} {ρ ρ1 : List Addr} {H H1 : Hp} {a : Addr} {o : O} (s : Stp ρ H ρ1 H1) (e : H1 a = H a) (h : ORep K mg ρ H a o) : ORep K mg ρ1 H1 a o := by
  cases o with
  | lst ds => obtain ⟨xs, q, l⟩ := h; exact ⟨xs, e.trans q, l.mono s⟩
  | dict ds => obtain ⟨xs, q, l⟩ := h; exact ⟨xs, e.trans q, l.mono s⟩
  | ins c fs => obtain ⟨C, dx, gs, g, q, n, l⟩ := h; exact ⟨C, dx, gs, g, e.trans q, n, l.mono s⟩
  | fd ds => obtain ⟨xs, ob, q, l⟩ := h; exact ⟨xs, ob, e.trans q, l.mono s⟩
structure SR (K : Fg) (mg : Mg) (ρ : List Addr) (H : Hp) (S : Sto) : Prop where
  len : ρ.length = S.length
  nd : ρ.Nodup
  ob : ∀ (n : Nat) (o : O) (a : Addr), S[n]? = some o → ρ[n]? = some a → ORep K mg ρ H a o
section
variable {K : Fg} {mg : Mg} {ρ ρ' : List Addr} {H H' : Hp} {S S' : Sto}
theorem SR.addr (s : SR K mg ρ H S) {n : Nat} {o : O} (h : S[n]? = some o) : ∃ a, ρ[n]? = some a ∧ ORep K mg ρ H a o := by
  obtain ⟨q, _⟩ := List.getElem?_eq_some_iff.mp h
  have q' : n < ρ.length := by rw [s.len]; exact q
  exact ⟨ρ[n], List.getElem?_eq_getElem q', s.ob n o _ h (List.getElem?_eq_getElem q')⟩
theorem SR.mem (s : SR K mg ρ H S) {a : Addr} (h : a ∈ ρ) : ∃ u, H a = some u := by
  obtain ⟨n, q⟩ := List.mem_iff_getElem?.mp h
  obtain ⟨l, _⟩ := List.getElem?_eq_some_iff.mp q
  have l' : n < S.length := by rw [← s.len]; exact l
  exact (s.ob n _ a (List.getElem?_eq_getElem l') q).there
theorem SR.fresh (s : SR K mg ρ H S) {p : Addr} (h : H p = none) : p ∉ ρ := fun q => by
  obtain ⟨u, e⟩ := s.mem q
  rw [h] at e; cases e
theorem stp_new {p : Addr} {o : HO} (h : H p = none) : Stp ρ H (ρ ++ [p]) (upd H p o) where
  ext := ⟨[p], rfl⟩
  new := fun a ha => by
    rcases List.mem_append.mp ha with z | z
    · exact .inl z
    · obtain rfl := List.mem_singleton.mp z
      exact .inr h
  old := fun a u _ e => by rw [upd_ne (ne_of_none e h)]; exact e
  frz := fun a u v e => by rw [upd_ne (ne_of_none e h)]; exact e
  tup := fun a u e => by rw [upd_ne (ne_of_none e h)]; exact e
/-- a new thing that the store does not name -/
theorem stp_val {p : Addr} {o : HO} (h : H p = none) : Stp ρ H ρ (upd H p o) where
  ext := ⟨[], by simp⟩
  new := fun a ha => .inl ha
  old := fun a u _ e => by rw [upd_ne (ne_of_none e h)]; exact e
  frz := fun a u v e => by rw [upd_ne (ne_of_none e h)]; exact e
  tup := fun a u e => by rw [upd_ne (ne_of_none e h)]; exact e
theorem stp_write {a : Addr} {o : HO} (h : a ∈ ρ) (hm : ∃ u, H a = some u ∧ Mut (some u)) : Stp ρ H ρ (upd H a o) where
  ext := ⟨[], by simp⟩
  new := fun a ha => .inl ha
  old := fun b u hb e => by rw [upd_ne (fun z => hb (by rw [z]; exact h))]; exact e
  frz := fun b u v e => by
    obtain ⟨w, q, m⟩ := hm
    rw [upd_ne (fun z => by subst z; rw [e] at q; cases q; exact m)]; exact e
  tup := fun b u e => by
    obtain ⟨w, q, m⟩ := hm
    rw [upd_ne (fun z => by subst z; rw [e] at q; cases q; exact m)]; exact e
theorem SR.val {p : Addr} {o : HO} (s : SR K mg ρ H S) (h : H p = none) : SR K mg ρ (upd H p o) S :=
  ⟨s.len, s.nd, fun n o a h1 h2 => (s.ob n o a h1 h2).mono (stp_val h) (by
    obtain ⟨u, e⟩ := (s.ob n o a h1 h2).there
    exact upd_ne (ne_of_none e h))⟩
theorem SR.new {p : Addr} {ho : HO} {o : O} (s : SR K mg ρ H S) (h : H p = none) (r : ORep K mg (ρ ++ [p]) (upd H p ho) p o) : SR K mg (ρ ++ [p]) (upd H p ho) (S ++ [o]) where
  len := by simp [s.len]
  nd := by
    refine List.nodup_append.mpr ⟨s.nd, by simp, fun a ha b hb => ?_⟩
    obtain rfl := List.mem_singleton.mp hb
    exact fun z => s.fresh h (z ▸ ha)
  ob := fun n o' a h1 h2 => by
    by_cases hn : n < S.length
    · rw [List.getElem?_append_left hn] at h1
      rw [List.getElem?_append_left (by rw [s.len]; exact hn)] at h2
      refine (s.ob n o' a h1 h2).mono (stp_new h) ?_
      obtain ⟨u, e⟩ := (s.ob n o' a h1 h2).there
      exact upd_ne (ne_of_none e h)
    · obtain ⟨q, _⟩ := List.getElem?_eq_some_iff.mp h1
      have e : n = S.length := by simp at q; omega
      subst e
      rw [List.getElem?_append_right (Nat.le_refl _)] at h1
      rw [← s.len, List.getElem?_append_right (Nat.le_refl _)] at h2
      simp at h1 h2
      subst h1; subst h2
      exact r
theorem SR.write {n : Nat} {a : Addr} {ho : HO} {o' : O} (s : SR K mg ρ H S) (h : ρ[n]? = some a) (hm : ∃ u, H a = some u ∧ Mut (some u)) (r : ORep K mg ρ (upd H a ho) a o') : SR K mg ρ (upd H a ho) (S.set n o') where
  len := by simp [s.len]
  nd := s.nd
  ob := fun m u b h1 h2 => by
    by_cases e : m = n
    · subst e
      rw [h] at h2; cases h2
      obtain ⟨q, _⟩ := List.getElem?_eq_some_iff.mp h1
      rw [List.getElem?_set_self (by simpa using q)] at h1
      cases h1
      exact r
    · rw [List.getElem?_set_ne (Ne.symm e)] at h1
      have ne : b ≠ a := fun z => by
        subst z
        obtain ⟨q1, e1⟩ := List.getElem?_eq_some_iff.mp h
        obtain ⟨q2, e2⟩ := List.getElem?_eq_some_iff.mp h2
        exact e ((List.getElem_inj s.nd).mp (e2.trans e1.symm))
      exact (s.ob m u b h1 h2).mono (stp_write (List.mem_of_getElem? h) hm) (upd_ne ne)
end
/-- slots -/
structure ER (K : Fg) (raw : List (Nat × V)) (ρ : List Addr) (H : Hp) (env : Env) (σ : L2.St) : Prop where
  len : σ.length = env.length
  at_ : ∀ (i : Nat) (d : D), env[i]? = some (some d) → ∃ v, σ[i]? = some (some v) ∧ Rep K ρ H v d
  raw : ∀ p ∈ raw, σ[p.1]? = some (some p.2)
section
variable {K : Fg} {mg : Mg} {raw : List (Nat × V)} {ρ ρ' : List Addr} {H H' : Hp} {S S' : Sto} {env : Env} {σ : L2.St}
theorem ER.mono (e : ER K raw ρ H env σ) (s : Stp ρ H ρ' H') : ER K raw ρ' H' env σ :=
  ⟨e.len, fun i d h => let ⟨v, q, r⟩ := e.at_ i d h; ⟨v, q, r.mono s⟩, e.raw⟩
theorem ER.set {i : Nat} {v : V} {d : D} (e : ER K raw ρ H env σ) (r : Rep K ρ H v d) (hr : ∀ p ∈ raw, p.1 ≠ i) : ER K raw ρ H (env.set i (some d)) (σ.set i (some v)) :=
  ⟨by simp [e.len], fun j d' h => by
    by_cases hj : j = i
    · subst hj
      obtain ⟨q, _⟩ := List.getElem?_eq_some_iff.mp h
      simp at q
      rw [List.getElem?_set_self q] at h
      cases h
      exact ⟨v, by rw [List.getElem?_set_self (by rw [e.len]; exact q)], r⟩
    · rw [List.getElem?_set_ne (Ne.symm hj)] at h
      obtain ⟨v', q, r'⟩ := e.at_ j d' h
      exact ⟨v', by rw [List.getElem?_set_ne (Ne.symm hj)]; exact q, r'⟩,
  fun p hp => by rw [List.getElem?_set_ne (Ne.symm (hr p hp))]; exact e.raw p hp⟩
end

/-! ### readings by functions -/
def Post (K : Fg) (mg : Mg) (W : WX) (ρ : List Addr) (H : Hp) (σ : L2.St) {α β : Type} (rep : List Addr → Hp → β → α → Prop) (r : R α) (Q : β → Hp → Prop) : Prop :=
  match r with
  | .ok d S' => ∀ v ρ' H', Stp ρ H ρ' H' → SR K mg ρ' H' S' → rep ρ' H' v d → Q v H'
  | .exc c S' => ∀ C ρ' H', mg c = some (.ref C) → Stp ρ H ρ' H' → SR K mg ρ' H' S' → W (.ref C) none σ H'
  | .err => False
abbrev repB : List Addr → Hp → Bool → Bool → Prop := fun _ _ a b => a = b
def tG (K : Fg) (mg : Mg) (raw : List (Nat × V)) (W : WX) {α β : Type} (rep : List Addr → Hp → β → α → Prop) (f : Env → Sto → R α) : L2.St → Hp → (β → Hp → Prop) → Prop := fun σ H Q =>
  ∃ ρ env S, ER K raw ρ H env σ ∧ SR K mg ρ H S ∧ Post K mg W ρ H σ rep (f env S) Q
abbrev tD (K : Fg) (mg : Mg) (raw : List (Nat × V)) (W : WX) (f : DE) : TE := tG K mg raw W (Rep K) f
abbrev tDT (K : Fg) (mg : Mg) (raw : List (Nat × V)) (W : WX) (f : DT) : TT := tG K mg raw W repB f
abbrev tDA (K : Fg) (mg : Mg) (raw : List (Nat × V)) (W : WX) (f : DA) : TA := tG K mg raw W (RepL K) f
def PostS (K : Fg) (mg : Mg) (raw : List (Nat × V)) (W : WX) (ρ : List Addr) (H : Hp) (r : Fl) (D : Ends) : Prop :=
  match r with
  | .nx e S' => ∀ σ' ρ' H', Stp ρ H ρ' H' → SR K mg ρ' H' S' → ER K raw ρ' H' e σ' → D.nx σ' H'
  | .rt d S' => ∀ v ρ' H', Stp ρ H ρ' H' → SR K mg ρ' H' S' → Rep K ρ' H' v d → D.rt v H'
  | .bk e S' => ∀ σ' ρ' H', Stp ρ H ρ' H' → SR K mg ρ' H' S' → ER K raw ρ' H' e σ' → D.bk σ' H'
  | .ct e S' => ∀ σ' ρ' H', Stp ρ H ρ' H' → SR K mg ρ' H' S' → ER K raw ρ' H' e σ' → D.ct σ' H'
  | .exc c e S' => ∀ C σ' ρ' H', mg c = some (.ref C) → Stp ρ H ρ' H' → SR K mg ρ' H' S' → ER K raw ρ' H' e σ' → W (.ref C) none σ' H'
  | .err => False
def tS (K : Fg) (mg : Mg) (raw : List (Nat × V)) (W : WX) (f : DS) : TS := fun D σ H =>
  ∃ ρ env S, ER K raw ρ H env σ ∧ SR K mg ρ H S ∧ PostS K mg raw W ρ H (f env S) D

section
variable {K : Fg} {mg : Mg} {raw : List (Nat × V)} {W : WX} {ρ ρ' ρ1 : List Addr} {H H' H1 : Hp} {σ : L2.St} {α β α' β' : Type} {rep : List Addr → Hp → β → α → Prop} {rep' : List Addr → Hp → β' → α' → Prop}
theorem Post.later {r : R α} {Q : β → Hp → Prop} (h : Post K mg W ρ H σ rep r Q) (s : Stp ρ H ρ1 H1) : Post K mg W ρ1 H1 σ rep r Q := by
  cases r with
  | ok d S' => exact fun v ρ' H' s' => h v ρ' H' (s.trans s')
  | exc c S' => exact fun C ρ' H' g s' => h C ρ' H' g (s.trans s')
  | err => exact h
theorem PostS.later {r : Fl} {D : Ends} (h : PostS K mg raw W ρ H r D) (s : Stp ρ H ρ1 H1) : PostS K mg raw W ρ1 H1 r D := by
  cases r with
  | nx e S' => exact fun v ρ' H' s' => h v ρ' H' (s.trans s')
  | rt e S' => exact fun v ρ' H' s' => h v ρ' H' (s.trans s')
  | bk e S' => exact fun v ρ' H' s' => h v ρ' H' (s.trans s')
  | ct e S' => exact fun v ρ' H' s' => h v ρ' H' (s.trans s')
  | exc c e S' => exact fun C σ' ρ' H' g s' => h C σ' ρ' H' g (s.trans s')
  | err => exact h
theorem Post.ok {d : α} {S : Sto} {Q : β → Hp → Prop} {v : β} (h : Post K mg W ρ H σ rep (.ok d S) Q) (s : Stp ρ H ρ1 H1) (sr : SR K mg ρ1 H1 S) (r : rep ρ1 H1 v d) : Q v H1 := h v ρ1 H1 s sr r
/-- THE STEP: first f, then k -/
theorem tG_bind {f : Env → Sto → R α} {k : α → Sto → R α'} {Q' : β → Hp → Prop} {Q : β' → Hp → Prop} {env : Env} {S : Sto} (e : ER K raw ρ H env σ) (s : SR K mg ρ H S)
    (h : Post K mg W ρ H σ rep' ((f env S).bind k) Q)
    (hk : ∀ d S1 v ρ1 H1, Stp ρ H ρ1 H1 → ER K raw ρ1 H1 env σ → SR K mg ρ1 H1 S1 → rep ρ1 H1 v d → Post K mg W ρ1 H1 σ rep' (k d S1) Q → Q' v H1) : tG K mg raw W rep f σ H Q' := by
  refine ⟨ρ, env, S, e, s, ?_⟩
  cases hf : f env S with
  | ok d S1 =>
    rw [hf] at h
    exact fun v ρ1 H1 st sr r => hk d S1 v ρ1 H1 st (e.mono st) sr r (Post.later h st)
  | exc c S1 => rw [hf] at h; exact h
  | err => rw [hf] at h; exact h
theorem tG_of {f : Env → Sto → R α} {Q : β → Hp → Prop} {env : Env} {S : Sto} (e : ER K raw ρ H env σ) (s : SR K mg ρ H S) (h : Post K mg W ρ H σ rep (f env S) Q) : tG K mg raw W rep f σ H Q := ⟨ρ, env, S, e, s, h⟩
/-- an expression ahead of a statement's rest -/
def thenS {α : Type} (r : R α) (env : Env) (k : α → Sto → Fl) : Fl :=
  match r with
  | .ok d S => k d S
  | .exc c S => .exc c env S
  | .err => .err
@[simp] theorem thenS_ok {α : Type} (d : α) (S : Sto) (env : Env) (k : α → Sto → Fl) : thenS (.ok d S) env k = k d S := rfl
@[simp] theorem thenS_exc {α : Type} (c : Str) (S : Sto) (env : Env) (k : α → Sto → Fl) : thenS (.exc c S) env k = .exc c env S := rfl
@[simp] theorem thenS_err {α : Type} (env : Env) (k : α → Sto → Fl) : thenS .err env k = .err := rfl
theorem tG_thenS {f : Env → Sto → R α} {k : α → Sto → Fl} {Q' : β → Hp → Prop} {Dn : Ends} {env : Env} {S : Sto} (e : ER K raw ρ H env σ) (s : SR K mg ρ H S)
    (h : PostS K mg raw W ρ H (thenS (f env S) env k) Dn)
    (hk : ∀ d S1 v ρ1 H1, Stp ρ H ρ1 H1 → ER K raw ρ1 H1 env σ → SR K mg ρ1 H1 S1 → rep ρ1 H1 v d → PostS K mg raw W ρ1 H1 (k d S1) Dn → Q' v H1) : tG K mg raw W rep f σ H Q' := by
  refine ⟨ρ, env, S, e, s, ?_⟩
  cases hf : f env S with
  | ok d S1 =>
    rw [hf] at h
    exact fun v ρ1 H1 st sr r => hk d S1 v ρ1 H1 st (e.mono st) sr r (PostS.later h st)
  | exc c S1 =>
    rw [hf] at h
    exact fun C ρ' H' g st sr => h C σ ρ' H' g st sr (e.mono st)
  | err => rw [hf] at h; exact h
end

/-! ### the judgements -/
theorem PE.imp {X : Cx} {e : Expr} {t t' : TE} (h : PE X e t) (q : ∀ σ H Q, t' σ H Q → t σ H Q) : PE X e t' := ⟨fun pins s σ H Q I z => h.run pins s σ H Q I (q σ H Q z)⟩
theorem PT.imp {X : Cx} {e : Expr} {t t' : TT} (h : PT X e t) (q : ∀ σ H Q, t' σ H Q → t σ H Q) : PT X e t' := ⟨fun pins s σ H Q I z => h.run pins s σ H Q I (q σ H Q z)⟩
theorem PW.imp {X : Cx} {e : Expr} {t t' : TT} (h : PW X e t) (q : ∀ σ H Q, t' σ H Q → t σ H Q) : PW X e t' := ⟨fun whole pins s σ H Q I z => h.run whole pins s σ H Q I (q σ H Q z)⟩
theorem PA.imp {X : Cx} {e : List Expr} {t t' : TA} (h : PA X e t) (q : ∀ σ H Q, t' σ H Q → t σ H Q) : PA X e t' := ⟨fun pos pins s σ H Q I z => h.run pos pins s σ H Q I (q σ H Q z)⟩
theorem PS.imp {X : Cx} {e : Stmt} {t t' : TS} (h : PS X e t) (q : ∀ σ H D, t' D σ H → t D σ H) : PS X e t' := ⟨fun pins s σ H D I z => h.run pins s σ H D I (q σ H D z)⟩
theorem PSs.imp {X : Cx} {e : List Stmt} {t t' : TS} (h : PSs X e t) (q : ∀ σ H D, t' D σ H → t D σ H) : PSs X e t' := ⟨fun pins s σ H D I z => h.run pins s σ H D I (q σ H D z)⟩
abbrev EX (X : Cx) (raw : List (Nat × V)) (W : WX) (e : Expr) (f : DE) : Prop := PE X e (tD X.K X.mg raw W f)
abbrev TX (X : Cx) (raw : List (Nat × V)) (W : WX) (e : Expr) (f : DT) : Prop := PT X e (tDT X.K X.mg raw W f)
abbrev WTX (X : Cx) (raw : List (Nat × V)) (W : WX) (e : Expr) (f : DT) : Prop := PW X e (tDT X.K X.mg raw W f)
abbrev AX (X : Cx) (raw : List (Nat × V)) (W : WX) (es : List Expr) (f : DA) : Prop := PA X es (tDA X.K X.mg raw W f)
abbrev SX (X : Cx) (raw : List (Nat × V)) (W : WX) (s : Stmt) (f : DS) : Prop := PS X s (tS X.K X.mg raw W f)
abbrev BX (X : Cx) (raw : List (Nat × V)) (W : WX) (s : List Stmt) (f : DS) : Prop := PSs X s (tS X.K X.mg raw W f)
end RL

namespace RL
open PySem PySem.Spec PyProof.Rows L2

/-! ### ends -/
section
variable {K : Fg} {mg : Mg} {raw : List (Nat × V)} {W : WX} {ρ : List Addr} {H : Hp} {σ : L2.St} {S : Sto}
theorem post_val {α β : Type} {rep : List Addr → Hp → β → α → Prop} {d : α} {v : β} {Q : β → Hp → Prop} (h : Post K mg W ρ H σ rep (.ok d S) Q) (s : SR K mg ρ H S) (r : rep ρ H v d) : Q v H := h v ρ H (Stp.refl _ _) s r
theorem at_new {α : Type} (l : List α) (x : α) : (l ++ [x])[l.length]? = some x := by simp
theorem rep_new {p : Addr} {H' : Hp} (s : SR K mg ρ H S) : Rep K (ρ ++ [p]) H' (.ref p) (.ref S.length) := .ref (by rw [← s.len]; exact at_new _ _)
theorem post_lst {ds : List D} {xs : List V} {Q : V → Hp → Prop} (h : Post K mg W ρ H σ (Rep K) (.ok (.ref S.length) (S ++ [.lst ds])) Q) (s : SR K mg ρ H S) (r : RepL K ρ H xs ds) : ∀ p, H p = none → Q (.ref p) (upd H p (.lst xs)) := fun p hp =>
  h (.ref p) (ρ ++ [p]) _ (stp_new hp) (s.new hp ⟨xs, upd_same, r.mono (stp_new hp)⟩) (rep_new s)
theorem post_tup {ds : List D} {xs : List V} {Q : V → Hp → Prop} (h : Post K mg W ρ H σ (Rep K) (.ok (.tup ds) S) Q) (s : SR K mg ρ H S) (r : RepL K ρ H xs ds) : ∀ p, H p = none → Q (.ref p) (upd H p (.tup xs)) := fun p hp =>
  h (.ref p) ρ _ (stp_val hp) (s.val hp) (.tup (.of upd_same) (r.mono (stp_val hp)))
end
theorem RepL.length {K : Fg} {ρ : List Addr} {H : Hp} : ∀ {vs : List V} {ds : List D}, RepL K ρ H vs ds → vs.length = ds.length
  | _, _, .nil => rfl
  | _, _, .cons _ t => by rw [List.length_cons, List.length_cons, RepL.length t]
theorem RepL.append {K : Fg} {ρ : List Addr} {H : Hp} : ∀ {vs us : List V} {ds es : List D}, RepL K ρ H vs ds → RepL K ρ H us es → RepL K ρ H (vs ++ us) (ds ++ es)
  | _, _, _, _, .nil, h => h
  | _, _, _, _, .cons r t, h => .cons r (RepL.append t h)
theorem RepL.get {K : Fg} {ρ : List Addr} {H : Hp} : ∀ {vs : List V} {ds : List D} {i : Nat} {d : D}, RepL K ρ H vs ds → ds[i]? = some d → ∃ v, vs[i]? = some v ∧ Rep K ρ H v d
  | _, _, _, _, .nil, h => by simp at h
  | _, _, 0, _, .cons r t, h => by simp at h; subst h; exact ⟨_, rfl, r⟩
  | _, _, i + 1, _, .cons r t, h => by
    obtain ⟨v, q, r'⟩ := RepL.get (i := i) t (by simpa using h)
    exact ⟨v, by simpa using q, r'⟩
theorem RepL.set {K : Fg} {ρ : List Addr} {H : Hp} {v : V} {d : D} (r : Rep K ρ H v d) : ∀ {vs : List V} {ds : List D} (i : Nat), RepL K ρ H vs ds → RepL K ρ H (vs.set i v) (ds.set i d)
  | _, _, _, .nil => .nil
  | _, _, 0, .cons _ t => .cons r t
  | _, _, i + 1, .cons q t => .cons q (RepL.set r i t)
theorem RepL.take {K : Fg} {ρ : List Addr} {H : Hp} : ∀ {vs : List V} {ds : List D} (n : Nat), RepL K ρ H vs ds → RepL K ρ H (vs.take n) (ds.take n)
  | _, _, 0, _ => .nil
  | _, _, _ + 1, .nil => .nil
  | _, _, n + 1, .cons r t => .cons r (RepL.take n t)
theorem RepL.drop {K : Fg} {ρ : List Addr} {H : Hp} : ∀ {vs : List V} {ds : List D} (n : Nat), RepL K ρ H vs ds → RepL K ρ H (vs.drop n) (ds.drop n)
  | _, _, 0, r => r
  | _, _, _ + 1, .nil => .nil
  | _, _, n + 1, .cons r t => RepL.drop n t
theorem RepL.reverse {K : Fg} {ρ : List Addr} {H : Hp} : ∀ {vs : List V} {ds : List D}, RepL K ρ H vs ds → RepL K ρ H vs.reverse ds.reverse
  | _, _, .nil => .nil
  | _, _, .cons r t => by rw [List.reverse_cons, List.reverse_cons]; exact RepL.append (RepL.reverse t) (.cons r .nil)
theorem RepL.eraseIdx {K : Fg} {ρ : List Addr} {H : Hp} : ∀ {vs : List V} {ds : List D} (i : Nat), RepL K ρ H vs ds → RepL K ρ H (vs.eraseIdx i) (ds.eraseIdx i)
  | _, _, _, .nil => .nil
  | _, _, 0, .cons _ t => t
  | _, _, i + 1, .cons r t => .cons r (RepL.eraseIdx i t)
theorem RepL.dropLast {K : Fg} {ρ : List Addr} {H : Hp} {vs : List V} {ds : List D} (h : RepL K ρ H vs ds) : RepL K ρ H vs.dropLast ds.dropLast := by
  rw [List.dropLast_eq_take, List.dropLast_eq_take, h.length]; exact h.take _
theorem RepL.nil_iff {K : Fg} {ρ : List Addr} {H : Hp} {vs : List V} {ds : List D} (h : RepL K ρ H vs ds) : vs = [] ↔ ds = [] := by
  cases h <;> simp
theorem RepL.ints {K : Fg} {ρ : List Addr} {H : Hp} : ∀ {vs : List V} {ns : List Int}, RepL K ρ H vs (ns.map D.int) → vs = ns.map V.int
  | _, [], .nil => rfl
  | _, n :: ns, h => by
    rw [List.map_cons] at h
    cases h with
    | cons r t => cases r; rw [List.map_cons, RepL.ints t]
theorem RepL.strs {K : Fg} {ρ : List Addr} {H : Hp} : ∀ {vs : List V} {ns : List Str}, RepL K ρ H vs (ns.map D.str) → vs = ns.map V.str
  | _, [], .nil => rfl
  | _, n :: ns, h => by
    rw [List.map_cons] at h
    cases h with
    | cons r t => cases r; rw [List.map_cons, RepL.strs t]
theorem RepL.bls {K : Fg} {ρ : List Addr} {H : Hp} : ∀ {vs : List V} {ns : List Bool}, RepL K ρ H vs (ns.map D.bl) → vs = ns.map V.bl
  | _, [], .nil => rfl
  | _, n :: ns, h => by
    rw [List.map_cons] at h
    cases h with
    | cons r t => cases r; rw [List.map_cons, RepL.bls t]
theorem repL_ints {K : Fg} {ρ : List Addr} {H : Hp} : ∀ ns : List Int, RepL K ρ H (ns.map V.int) (ns.map D.int)
  | [] => .nil
  | n :: ns => .cons (.int n) (repL_ints ns)
theorem repL_strs {K : Fg} {ρ : List Addr} {H : Hp} : ∀ ns : List Str, RepL K ρ H (ns.map V.str) (ns.map D.str)
  | [] => .nil
  | n :: ns => .cons (.str n) (repL_strs ns)

/-! ### names, constants -/
def dV (i : Nat) : DE := fun env S => match env[i]? with
  | some (some d) => .ok d S
  | _ => .err
def dC (d : D) : DE := fun _ S => .ok d S
section
variable {X : Cx} {raw : List (Nat × V)} {W : WX} {pos : Pos}
theorem ex_v (i : Nat) {x : Str} (hN : X.N[i]? = some x := by rfl) (hv : Vis X.env.scope x := by first | exact Or.inl rfl | exact Or.inr (Or.inl rfl) | exact Or.inr (Or.inr rfl)) (hd : (x == ("__debug__" : Str)) = false := by decide)
    (hcd : (x == ("__classdict__" : Str)) = false := by decide) : EX X raw W (.Name x pos) (dV i) :=
  PE.imp (pe_var hN hv hd hcd) fun σ H Q ⟨ρ, env, S, e, s, h⟩ => by
    cases q : env[i]? with
    | none => simp only [dV, q] at h; exact h.elim
    | some o =>
      cases o with
      | none => simp only [dV, q] at h; exact h.elim
      | some d =>
        simp only [dV, q] at h
        obtain ⟨v, e1, r⟩ := e.at_ i d q
        exact ⟨v, e1, post_val h s r⟩
theorem ex_c {e : Expr} {v : V} {d : D} (h : PE X e (tC v)) (r : ∀ ρ H, Rep X.K ρ H v d) : EX X raw W e (dC d) :=
  PE.imp h fun σ H Q ⟨ρ, env, S, e, s, h⟩ => post_val h s (r ρ H)
theorem ex_int {i j} : EX X raw W (.Constant (.int i) j pos) (dC (.int i)) := ex_c pe_int fun _ _ => .int i
theorem ex_bl {i j} : EX X raw W (.Constant (.bool i) j pos) (dC (.bl i)) := ex_c pe_bl fun _ _ => .bl i
theorem ex_non {j} : EX X raw W (.Constant .none j pos) (dC .non) := ex_c pe_non fun _ _ => .non
theorem ex_str {x j} : EX X raw W (.Constant (.str x) j pos) (dC (.str x)) := ex_c pe_str fun _ _ => .str x
/-- a constant of the module: v stands for d at every state -/
def RepK (K : Fg) (u : Value) (d : D) : Prop := ∃ v, RelV v u ∧ ∀ ρ H, Rep K ρ H v d
theorem ex_g {x : Str} {u : Value} {d : D} (hg : Gl X x) (hm : X.mg x = some u) (r : RepK X.K u d) (hd : (x == ("__debug__" : Str)) = false := by decide) : EX X raw W (.Name x pos) (dC d) :=
  let ⟨_, r1, r2⟩ := r
  ex_c (pe_glob hg hm r1 hd) r2

/-! ### two-place operations by values -/
abbrev G1 := D → Sto → R D
abbrev G2 := D → D → Sto → R D
abbrev GA := List D → Sto → R D
def dBin (g : G2) (fa fb : DE) : DE := fun env S => (fa env S).bind fun x S1 => (fb env S1).bind fun y S2 => g x y S2
def dUn (g : G1) (fa : DE) : DE := fun env S => (fa env S).bind fun x S1 => g x S1
def Ok2 (K : Fg) (mg : Mg) (r : R2) (g : G2) : Prop := ∀ (W : WX) (ρ : List Addr) (H : Hp) (σ : L2.St) (S : Sto) (x y : V) (dx dy : D) (Q : V → Hp → Prop), SR K mg ρ H S → Rep K ρ H x dx → Rep K ρ H y dy → Post K mg W ρ H σ (Rep K) (g dx dy S) Q → r x y H Q
def Ok1 (K : Fg) (mg : Mg) (r : V → Hp → VK → Prop) (g : G1) : Prop := ∀ (W : WX) (ρ : List Addr) (H : Hp) (σ : L2.St) (S : Sto) (x : V) (dx : D) (Q : V → Hp → Prop), SR K mg ρ H S → Rep K ρ H x dx → Post K mg W ρ H σ (Rep K) (g dx S) Q → r x H Q
def OkA (K : Fg) (mg : Mg) (r : List V → Hp → VK → Prop) (g : GA) : Prop := ∀ (W : WX) (ρ : List Addr) (H : Hp) (σ : L2.St) (S : Sto) (xs : List V) (ds : List D) (Q : V → Hp → Prop), SR K mg ρ H S → RepL K ρ H xs ds → Post K mg W ρ H σ (Rep K) (g ds S) Q → r xs H Q
variable {a b c : Expr} {fa fb fc : DE} {r r' : R2} {g g' : G2}
theorem tD_bin {σ : L2.St} {H : Hp} {Q : VK} (ok : Ok2 X.K X.mg r g) (h : tD X.K X.mg raw W (dBin g fa fb) σ H Q) : tOp r (tD X.K X.mg raw W fa) (tD X.K X.mg raw W fb) σ H Q := by
  obtain ⟨ρ, env, S, e, s, h⟩ := h
  exact tG_bind e s h fun d S1 v ρ1 H1 st e1 s1 r1 h1 => tG_bind e1 s1 h1 fun d2 S2 v2 ρ2 H2 st2 e2 s2 r2 h2 => ok W ρ2 H2 σ S2 _ _ _ _ Q s2 (r1.mono st2) r2 h2
theorem ex_bin {op : Operator} (ho : OpR X (binaryOp op) r) (ok : Ok2 X.K X.mg r g) (ha : EX X raw W a fa) (hb : EX X raw W b fb) : EX X raw W (.BinOp a op b pos) (dBin g fa fb) :=
  PE.imp (pe_op ho ha hb) fun _ _ _ => tD_bin ok
theorem ex_cmp {op : CmpOp} (ho : OpR X (compareOp op) r) (ok : Ok2 X.K X.mg r g) (ha : EX X raw W a fa) (hb : EX X raw W b fb) (hm : behindInMarks op b = false) : EX X raw W (.Compare a [op] [b] pos) (dBin g fa fb) :=
  PE.imp (pe_cmpR ho ha hb hm) fun _ _ _ => tD_bin ok
/-- a value that is a truth, as a test -/
def asB (r : R D) : R Bool := match r with
  | .ok (.bl b) S => .ok b S
  | .exc c S => .exc c S
  | _ => .err
@[simp] theorem asB_bl (b : Bool) (S : Sto) : asB (.ok (.bl b) S) = .ok b S := rfl
def dT (f : DE) : DT := fun env S => asB (f env S)
theorem asB_bind {α : Type} (x : R α) (k : α → Sto → R D) : asB (x.bind k) = x.bind fun a S => asB (k a S) := by cases x <;> rfl
theorem post_asB {ρ : List Addr} {H : Hp} {σ : L2.St} {r : R D} {Q : Bool → Hp → Prop} {K : Fg} {mg : Mg} (h : Post K mg W ρ H σ repB (asB r) Q) : Post K mg W ρ H σ (Rep K) r (fun x H' => ∃ k, x = .bl k ∧ Q k H') := by
  cases r with
  | ok d S =>
    cases d with
    | bl b => exact fun v ρ' H' st sr r => by cases r; exact ⟨b, rfl, h b ρ' H' st sr rfl⟩
    | _ => exact h.elim
  | exc c S => exact h
  | err => exact h
theorem tD_asB {f : DE} {σ : L2.St} {H : Hp} {Q : Bool → Hp → Prop} (h : tDT X.K X.mg raw W (dT f) σ H Q) : tD X.K X.mg raw W f σ H (fun x H' => ∃ k, x = .bl k ∧ Q k H') := by
  obtain ⟨ρ, env, S, e, s, h⟩ := h
  exact ⟨ρ, env, S, e, s, post_asB h⟩
theorem tx_cmp {op : CmpOp} (ho : OpR X (compareOp op) r) (ok : Ok2 X.K X.mg r g) (ha : EX X raw W a fa) (hb : EX X raw W b fb) (hm : behindInMarks op b = false) : TX X raw W (.Compare a [op] [b] pos) (dT (dBin g fa fb)) :=
  PT.imp (pt_cmpR ho ha hb hm) fun _ _ _ h => tD_bin ok (tD_asB h)
theorem tx_val {e : Expr} {f : DE} (h : EX X raw W e f) (he : ∀ whole, isTrue e X.env whole = (do let v ← whole; standAt e.pos; holding [v] (truthy v)) := by intro _; rfl) : TX X raw W e (dT f) :=
  PT.imp (pt_val h he) fun _ _ _ h => tD_asB h

/-! ### chains -/
def dChain (g g' : G2) (fa fb fc : DE) : DE := fun env S => (fa env S).bind fun x S1 => (fb env S1).bind fun y S2 => (asB (g x y S2)).bind fun k S3 => if k = true then (fc env S3).bind fun z S4 => g' y z S4 else .ok (.bl false) S3
theorem tD_chain {σ : L2.St} {H : Hp} {Q : VK} (ok : Ok2 X.K X.mg r g) (ok' : Ok2 X.K X.mg r' g') (h : tD X.K X.mg raw W (dChain g g' fa fb fc) σ H Q) :
    tChain r r' (tD X.K X.mg raw W fa) (tD X.K X.mg raw W fb) (tD X.K X.mg raw W fc) σ H Q := by
  obtain ⟨ρ, env, S, e, s, h⟩ := h
  refine tG_bind e s h fun d S1 v ρ1 H1 st e1 s1 r1 h1 => tG_bind e1 s1 h1 fun d2 S2 v2 ρ2 H2 st2 e2 s2 r2 h2 => ok W ρ2 H2 σ S2 _ _ _ _ _ s2 (r1.mono st2) r2 ?_
  cases hg : g d d2 S2 with
  | err => rw [hg] at h2; exact h2
  | exc c S3 => rw [hg] at h2; exact h2
  | ok d3 S3 =>
    rw [hg] at h2
    cases d3 with
    | bl k =>
      intro v3 ρ3 H3 st3 s3 r3
      cases r3
      refine ⟨k, rfl, ?_⟩
      have h3 := Post.later h2 st3
      simp only [asB_bl, R.bind_ok] at h3
      by_cases hk : k = true
      · rw [if_pos hk] at h3 ⊢
        exact tG_bind (e2.mono st3) s3 h3 fun d4 S4 v4 ρ4 H4 st4 e4 s4 r4 h4 => ok' W ρ4 H4 σ S4 _ _ _ _ _ s4 ((r2.mono st3).mono st4) r4 h4
      · rw [if_neg hk] at h3 ⊢
        exact post_val h3 s3 (.bl false)
    | _ => exact h2.elim
theorem ex_chain {op op' : CmpOp} (ho : OpR X (compareOp op) r) (ok : Ok2 X.K X.mg r g) (ho' : OpR X (compareOp op') r') (ok' : Ok2 X.K X.mg r' g') (ha : EX X raw W a fa) (hb : EX X raw W b fb) (hc : EX X raw W c fc)
    (hm : lastMarks [op, op'] [b, c] = false := by with_unfolding_all rfl) : EX X raw W (.Compare a [op, op'] [b, c] pos) (dChain g g' fa fb fc) :=
  PE.imp (pe_chain ho ho' ha hb hc hm) fun _ _ _ => tD_chain ok ok'
theorem tx_chain {op op' : CmpOp} (ho : OpR X (compareOp op) r) (ok : Ok2 X.K X.mg r g) (ho' : OpR X (compareOp op') r') (ok' : Ok2 X.K X.mg r' g') (ha : EX X raw W a fa) (hb : EX X raw W b fb) (hc : EX X raw W c fc)
    (hm : lastMarks [op, op'] [b, c] = false := by with_unfolding_all rfl) : TX X raw W (.Compare a [op, op'] [b, c] pos) (dT (dChain g g' fa fb fc)) :=
  PT.imp (pt_chain ho ho' ha hb hc hm) fun _ _ _ h => tD_chain ok ok' (tD_asB h)

/-! ### and, or, not, if-expressions -/
variable {ta tb tc : DT} {rest : List Expr}
def dAnd (t u : DT) : DT := fun env S => (t env S).bind fun k S1 => if k = true then u env S1 else .ok false S1
def dOr (t u : DT) : DT := fun env S => (t env S).bind fun k S1 => if k = true then .ok true S1 else u env S1
def dNot (t : DT) : DT := fun env S => (t env S).bind fun k S1 => .ok (!k) S1
def dAndV (t u : DE) : DE := fun env S => (asB (t env S)).bind fun k S1 => if k = true then u env S1 else .ok (.bl false) S1
def dOrV (t u : DE) : DE := fun env S => (asB (t env S)).bind fun k S1 => if k = true then .ok (.bl true) S1 else u env S1
def dNotV (t : DE) : DE := fun env S => (asB (t env S)).bind fun k S1 => .ok (.bl (!k)) S1
def dIfE (t : DT) (fa fb : DE) : DE := fun env S => (t env S).bind fun k S1 => if k = true then fa env S1 else fb env S1
theorem wx_and1 (ha : TX X raw W a ta) : WTX X raw W (.BoolOp .And [a] pos) ta := pw_and1 ha
theorem wx_or1 (ha : TX X raw W a ta) : WTX X raw W (.BoolOp .Or [a] pos) ta := pw_or1 ha
theorem wx_and (ha : TX X raw W a ta) (hb : WTX X raw W (.BoolOp .And (b :: rest) pos) tb) : WTX X raw W (.BoolOp .And (a :: b :: rest) pos) (dAnd ta tb) :=
  PW.imp (pw_and ha hb) fun σ H Q ⟨ρ, env, S, e, s, h⟩ => tG_bind e s h fun k S1 v ρ1 H1 st e1 s1 r1 h1 => by
    cases r1
    by_cases hk : k = true
    · rw [if_pos hk] at h1 ⊢; exact tG_of e1 s1 h1
    · rw [if_neg hk] at h1 ⊢; exact post_val h1 s1 rfl
theorem wx_or (ha : TX X raw W a ta) (hb : WTX X raw W (.BoolOp .Or (b :: rest) pos) tb) : WTX X raw W (.BoolOp .Or (a :: b :: rest) pos) (dOr ta tb) :=
  PW.imp (pw_or ha hb) fun σ H Q ⟨ρ, env, S, e, s, h⟩ => tG_bind e s h fun k S1 v ρ1 H1 st e1 s1 r1 h1 => by
    cases r1
    by_cases hk : k = true
    · rw [if_pos hk] at h1 ⊢; exact post_val h1 s1 rfl
    · rw [if_neg hk] at h1 ⊢; exact tG_of e1 s1 h1
theorem tx_w {e : Expr} (h : WTX X raw W e ta) : TX X raw W e ta := PW.pt h
theorem tx_not (ha : TX X raw W a ta) : TX X raw W (.UnaryOp .Not a pos) (dNot ta) :=
  PT.imp (pt_not ha) fun σ H Q ⟨ρ, env, S, e, s, h⟩ => tG_bind e s h fun k S1 v ρ1 H1 st e1 s1 r1 h1 => by
    cases r1; exact post_val h1 s1 rfl
/-- the truth of the first, then the rest, by values -/
theorem tG_asB {ρ : List Addr} {H : Hp} {σ : L2.St} {α β : Type} {rep : List Addr → Hp → β → α → Prop} {k : Bool → Sto → R α} {Q : β → Hp → Prop} {Q' : V → Hp → Prop} {env : Env} {S : Sto} (e : ER X.K raw ρ H env σ) (s : SR X.K X.mg ρ H S)
    (h : Post X.K X.mg W ρ H σ rep ((asB (fa env S)).bind k) Q)
    (hk : ∀ d S1 ρ1 H1, Stp ρ H ρ1 H1 → ER X.K raw ρ1 H1 env σ → SR X.K X.mg ρ1 H1 S1 → Post X.K X.mg W ρ1 H1 σ rep (k d S1) Q → Q' (.bl d) H1) : tD X.K X.mg raw W fa σ H Q' := by
  refine ⟨ρ, env, S, e, s, ?_⟩
  cases hf : fa env S with
  | ok d S1 =>
    rw [hf] at h
    cases d with
    | bl b => exact fun v ρ1 H1 st sr r => by cases r; exact hk b S1 ρ1 H1 st (e.mono st) sr (Post.later h st)
    | _ => exact h.elim
  | exc c S1 => rw [hf] at h; exact h
  | err => rw [hf] at h; exact h
theorem ex_one {op} {f : DE} (h : EX X raw W a f) : EX X raw W (.BoolOp op [a] pos) f := pe_one h
theorem ex_and (ha : EX X raw W a fa) (hb : EX X raw W (.BoolOp .And (b :: rest) pos) fb) : EX X raw W (.BoolOp .And (a :: b :: rest) pos) (dAndV fa fb) :=
  PE.imp (pe_and ha hb) fun σ H Q ⟨ρ, env, S, e, s, h⟩ => tG_asB e s h fun k S1 ρ1 H1 st e1 s1 h1 => ⟨k, rfl, by
    by_cases hk : k = true
    · rw [if_pos hk] at h1 ⊢; exact tG_of e1 s1 h1
    · rw [if_neg hk] at h1 ⊢; exact post_val h1 s1 (.bl false)⟩
theorem ex_or (ha : EX X raw W a fa) (hb : EX X raw W (.BoolOp .Or (b :: rest) pos) fb) : EX X raw W (.BoolOp .Or (a :: b :: rest) pos) (dOrV fa fb) :=
  PE.imp (pe_or ha hb) fun σ H Q ⟨ρ, env, S, e, s, h⟩ => tG_asB e s h fun k S1 ρ1 H1 st e1 s1 h1 => ⟨k, rfl, by
    by_cases hk : k = true
    · rw [if_pos hk] at h1 ⊢; exact post_val h1 s1 (.bl true)
    · rw [if_neg hk] at h1 ⊢; exact tG_of e1 s1 h1⟩
theorem ex_not (ha : EX X raw W a fa) : EX X raw W (.UnaryOp .Not a pos) (dNotV fa) :=
  PE.imp (pe_not ha) fun σ H Q ⟨ρ, env, S, e, s, h⟩ => tG_asB e s h fun k S1 ρ1 H1 st e1 s1 h1 => ⟨k, rfl, post_val h1 s1 (.bl _)⟩
theorem ex_ifE (ht : TX X raw W c tc) (ha : EX X raw W a fa) (hb : EX X raw W b fb) : EX X raw W (.IfExp c a b pos) (dIfE tc fa fb) :=
  PE.imp (pe_ifExp ht ha hb) fun σ H Q ⟨ρ, env, S, e, s, h⟩ => tG_bind e s h fun k S1 v ρ1 H1 st e1 s1 r1 h1 => by
    cases r1
    by_cases hk : k = true
    · rw [if_pos hk] at h1 ⊢; exact tG_of e1 s1 h1
    · rw [if_neg hk] at h1 ⊢; exact tG_of e1 s1 h1
theorem ex_un {op : UnaryOp} {r : V → Hp → VK → Prop} {g : G1} (ho : UnR X (unaryOp op) r) (ok : Ok1 X.K X.mg r g) (ha : EX X raw W a fa) : EX X raw W (.UnaryOp op a pos) (dUn g fa) :=
  PE.imp (pe_un ho ha) fun σ H Q ⟨ρ, env, S, e, s, h⟩ => tG_bind e s h fun d S1 v ρ1 H1 st e1 s1 r1 h1 => ok W ρ1 H1 σ S1 _ _ Q s1 r1 h1

/-! ### argument lists, displays -/
def dNilA : DA := fun _ S => .ok [] S
def dConsA (f : DE) (g : DA) : DA := fun env S => (f env S).bind fun x S1 => (g env S1).bind fun xs S2 => .ok (x :: xs) S2
def lim : Nat := 16777216
theorem lim_eq : sizeLine = lim := sizeLine_eq
def newT (ds : List D) (S : Sto) : R D := if ds.length ≤ lim then .ok (.tup ds) S else .err
def newL (ds : List D) (S : Sto) : R D := if ds.length ≤ lim then .ok (.ref S.length) (S ++ [.lst ds]) else .err
def dTup (f : DA) : DE := fun env S => (f env S).bind newT
def dLst (f : DA) : DE := fun env S => (f env S).bind newL
variable {e : Expr} {es : List Expr} {f : DE} {fs : DA}
theorem ax_nil : AX X raw W [] dNilA := PA.imp pa_nil fun σ H Q ⟨ρ, env, S, e, s, h⟩ => post_val h s .nil
theorem ax_cons (ha : EX X raw W e f) (hr : AX X raw W es fs) (hs : starEach (e :: es) X.env = (false, eval e X.env) :: starEach es X.env := by rfl) : AX X raw W (e :: es) (dConsA f fs) :=
  PA.imp (pa_cons ha hr hs) fun σ H Q ⟨ρ, env, S, e, s, h⟩ => tG_bind e s h fun d S1 v ρ1 H1 st e1 s1 r1 h1 => tG_bind e1 s1 h1 fun ds S2 vs ρ2 H2 st2 e2 s2 r2 h2 => post_val h2 s2 (.cons (r1.mono st2) r2)
theorem ex_tup {k} (h : AX X raw W es fs) : EX X raw W (.Tuple es k pos) (dTup fs) :=
  PE.imp (pe_tup h) fun σ H Q ⟨ρ, env, S, e, s, h⟩ => tG_bind e s h fun d S1 v ρ1 H1 st e1 s1 r1 h1 => by
    unfold newT at h1
    split at h1
    · rename_i hl
      exact ⟨by rw [lim_eq, r1.length]; exact hl, post_tup h1 s1 r1⟩
    · exact h1.elim
theorem ex_lst (h : AX X raw W es fs) : EX X raw W (.List es pos) (dLst fs) :=
  PE.imp (pe_lst h) fun σ H Q ⟨ρ, env, S, e, s, h⟩ => tG_bind e s h fun d S1 v ρ1 H1 st e1 s1 r1 h1 => by
    unfold newL at h1
    split at h1
    · rename_i hl
      exact ⟨by rw [lim_eq, r1.length]; exact hl, post_lst h1 s1 r1⟩
    · exact h1.elim

/-! ### calls of built-ins -/
def dCB (g : GA) (fs : DA) : DE := fun env S => (fs env S).bind g
theorem tD_cb {r : List V → Hp → VK → Prop} {g : GA} {σ : L2.St} {H : Hp} {Q : VK} (ok : OkA X.K X.mg r g) (h : tD X.K X.mg raw W (dCB g fs) σ H Q) : tCB r (tDA X.K X.mg raw W fs) σ H Q := by
  obtain ⟨ρ, env, S, e, s, h⟩ := h
  exact tG_bind e s h fun ds S1 vs ρ1 H1 st e1 s1 r1 h1 => ok W ρ1 H1 σ S1 _ _ Q s1 r1 h1
theorem ex_callB {x : Str} {p : Pos} {id : String} {r : List V → Hp → VK → Prop} {g : GA} (hc : CallR X (.builtin id) r) (ok : OkA X.K X.mg r g) (hg : Gl X x) (hm : X.mg x = none) (hv : bootBuiltins x = some (.builtin id)) (ha : AX X raw W (e :: es) fs)
    (hn : x ≠ "__name__" := by decide) (hdb : (x == ("__debug__" : Str)) = false := by decide) (he : starEach (e :: es) X.env = (false, eval e X.env) :: starEach es X.env := by rfl) (hpl : (backTo pos (starEach es X.env)).any (·.1) = false := by rfl) :
    EX X raw W (.Call (.Name x p) (e :: es) [] pos) (dCB g fs) := PE.imp (pe_callB hc hg hm hv ha hn hdb he hpl) fun _ _ _ => tD_cb ok
theorem ex_callTy {x : Str} {p : Pos} {T : String} {r : List V → Hp → VK → Prop} {g : GA} (hc : CallR X (.type T) r) (ok : OkA X.K X.mg r g) (hg : Gl X x) (hm : X.mg x = none) (hv : bootBuiltins x = some (.type T)) (ha : AX X raw W (e :: es) fs)
    (hn : x ≠ "__name__" := by decide) (hdb : (x == ("__debug__" : Str)) = false := by decide) (he : starEach (e :: es) X.env = (false, eval e X.env) :: starEach es X.env := by rfl) (hpl : (backTo pos (starEach es X.env)).any (·.1) = false := by rfl) :
    EX X raw W (.Call (.Name x p) (e :: es) [] pos) (dCB g fs) := PE.imp (pe_callTy hc hg hm hv ha hn hdb he hpl) fun _ _ _ => tD_cb ok

/-! ### subscripts, slices, methods of built-in types -/
theorem ex_ix (hr : IxR X r) (ok : Ok2 X.K X.mg r g) (ha : EX X raw W a fa) (hb : EX X raw W b fb) (hs : PlainIx b) : EX X raw W (.Subscript a b pos) (dBin g fa fb) :=
  PE.imp (pe_ix hr ha hb hs) fun _ _ _ => tD_bin ok
abbrev DO := Env → Sto → R (Option Int)
abbrev repO : List Addr → Hp → Option Int → Option Int → Prop := fun _ _ a b => a = b
def dNoPart : DO := fun _ S => .ok none S
def dPart (f : DE) : DO := fun env S => (f env S).bind fun x S1 => match x with
  | .int i => .ok (some i) S1
  | _ => .err
abbrev OX (X : Cx) (raw : List (Nat × V)) (W : WX) (e : Option Expr) (f : DO) : Prop := PO X e (tG X.K X.mg raw W repO f)
theorem PO.imp {X : Cx} {e : Option Expr} {t t' : TO} (h : PO X e t) (q : ∀ σ H Q, t' σ H Q → t σ H Q) : PO X e t' := ⟨fun pins s σ H Q I z => h.run pins s σ H Q I (q σ H Q z)⟩
theorem ox_none : OX X raw W none dNoPart := PO.imp po_none fun σ H Q ⟨ρ, env, S, e, s, h⟩ => post_val h s rfl
theorem ox_some (h : EX X raw W e f) : OX X raw W (some e) (dPart f) := PO.imp (po_some h) fun σ H Q ⟨ρ, env, S, e, s, h⟩ => tG_bind e s h fun d S1 v ρ1 H1 st e1 s1 r1 h1 => by
  cases d with
  | int i => cases r1; exact ⟨i, rfl, post_val h1 s1 rfl⟩
  | _ => exact h1.elim
abbrev GS := D → Option Int → Option Int → Sto → R D
def OkS (K : Fg) (mg : Mg) (r : V → Option Int → Option Int → Hp → VK → Prop) (g : GS) : Prop := ∀ (W : WX) (ρ : List Addr) (H : Hp) (σ : L2.St) (S : Sto) (x : V) (dx : D) (lo hi : Option Int) (Q : V → Hp → Prop), SR K mg ρ H S → Rep K ρ H x dx → Post K mg W ρ H σ (Rep K) (g dx lo hi S) Q → r x lo hi H Q
def dSl (g : GS) (f : DE) (fl fh : DO) : DE := fun env S => (f env S).bind fun x S1 => (fl env S1).bind fun l S2 => (fh env S2).bind fun u S3 => g x l u S3
theorem ex_slice {rs : V → Option Int → Option Int → Hp → VK → Prop} {gs : GS} {lo hi : Option Expr} {fl fh : DO} {p2 : Pos} (hr : SlR X rs) (ok : OkS X.K X.mg rs gs) (he : EX X raw W e f) (hl : OX X raw W lo fl) (hh : OX X raw W hi fh) :
    EX X raw W (.Subscript e (.Slice lo hi none p2) pos) (dSl gs f fl fh) :=
  PE.imp (pe_slice hr he hl hh) fun σ H Q ⟨ρ, env, S, e, s, h⟩ => tG_bind e s h fun d S1 v ρ1 H1 st e1 s1 r1 h1 => tG_bind e1 s1 h1 fun l S2 l' ρ2 H2 st2 e2 s2 r2 h2 => tG_bind e2 s2 h2 fun u S3 u' ρ3 H3 st3 e3 s3 r3 h3 => by
    cases r2; cases r3
    exact ok W ρ3 H3 σ S3 _ _ _ _ Q s3 ((r1.mono st2).mono st3) h3
end
end RL

namespace RL
open PySem PySem.Spec PyProof.Rows L2

/-! ### data as PyData, for == -/
def toP (S : Sto) : Nat → D → Option PyData
  | 0, _ => none
  | k + 1, d => match d with
    | .non => some .none
    | .bl b => some (.bool b)
    | .int i => some (.int i)
    | .str x => if PyData.strOk x = true then some (.str x) else none
    | .tup ds => (ds.mapM (toP S k)).map .tuple
    | .scr ds => (ds.mapM (toP S k)).map .list
    | .ref n => match S[n]? with
      | some (.lst ds) => (ds.mapM (toP S k)).map .list
      | _ => none
theorem mapM_some {α β : Type} {f : α → Option β} : ∀ {l : List α} {r : List β}, l.mapM f = some r → Paired (fun a b => f a = some b) l r
  | [], r, h => by simp at h; subst h; exact .nil
  | a :: l, r, h => by
    rw [List.mapM_cons] at h
    cases e : f a with
    | none => rw [e] at h; cases h
    | some b =>
      cases e2 : l.mapM f with
      | none => rw [e, e2] at h; cases h
      | some bs =>
        rw [e, e2] at h
        cases h
        exact .cons e (mapM_some e2)
theorem dpAll_of {K : Fg} {ρ : List Addr} {H : Hp} {f : D → Option PyData} (ih : ∀ d v p, Rep K ρ H v d → f d = some p → Dp K H v p) : ∀ {ds : List D} {vs : List V} {ps : List PyData}, RepL K ρ H vs ds → Paired (fun a b => f a = some b) ds ps → DpAll K H vs ps
  | _, _, _, .nil, .nil => .nil
  | _, _, _, .cons r t, .cons q u => .cons (ih _ _ _ r q) (dpAll_of ih t u)
theorem dp_of {K : Fg} {mg : Mg} {ρ : List Addr} {H : Hp} {S : Sto} (s : SR K mg ρ H S) : ∀ (k : Nat) (d : D) (v : V) (p : PyData), Rep K ρ H v d → toP S k d = some p → Dp K H v p
  | 0, _, _, _, _, h => by cases h
  | k + 1, d, v, p, r, h => by
    cases r with
    | non => cases h; exact .non
    | bl b => cases h; exact .bl b
    | int b => cases h; exact .int b
    | str x =>
      unfold toP at h
      dsimp only at h
      split at h
      · cases h; exact .str x
      · cases h
    | tup hq l =>
      obtain ⟨ps, e, rfl⟩ := Option.map_eq_some_iff.mp h
      exact .tup hq (dpAll_of (fun d v p r h => dp_of s k d v p r h) l (mapM_some e))
    | scr hq l =>
      obtain ⟨ps, e, rfl⟩ := Option.map_eq_some_iff.mp h
      exact .lst hq.sq (dpAll_of (fun d v p r h => dp_of s k d v p r h) l (mapM_some e))
    | @ref n a hn =>
      unfold toP at h
      dsimp only at h
      cases hS : S[n]? with
      | none => rw [hS] at h; cases h
      | some o =>
        rw [hS] at h
        cases o with
        | lst ds =>
          obtain ⟨ps, e, rfl⟩ := Option.map_eq_some_iff.mp h
          obtain ⟨xs, hx, l⟩ := s.ob n _ a hS hn
          exact .lst (.of hx) (dpAll_of (fun d v p r h => dp_of s k d v p r h) l (mapM_some e))
        | _ => cases h
theorem lay_all {f : D → Option PyData} (ih : ∀ d p, f d = some p → p.canLay0 = true) : ∀ {ds : List D} {ps : List PyData}, Paired (fun a b => f a = some b) ds ps → PyData.canLayAll0 ps = true
  | _, _, .nil => rfl
  | _, _, .cons q u => by
    unfold PyData.canLayAll0
    rw [ih _ _ q, lay_all ih u] <;> rfl
theorem depth_all {f : D → Option PyData} {k : Nat} (ih : ∀ d p, f d = some p → p.depth ≤ k) : ∀ {ds : List D} {ps : List PyData}, Paired (fun a b => f a = some b) ds ps → PyData.depthAll ps ≤ k
  | _, _, .nil => by simp [PyData.depthAll]
  | _, _, .cons q u => by
    have h1 := ih _ _ q
    have h2 := depth_all ih u
    simp only [PyData.depthAll]
    omega
theorem toP_lay {S : Sto} : ∀ (k : Nat) (d : D) (p : PyData), toP S k d = some p → p.canLay0 = true ∧ p.depth ≤ k
  | 0, _, _, h => by cases h
  | k + 1, d, p, h => by
    have lst : ∀ {ds : List D} {ps : List PyData}, ds.mapM (toP S k) = some ps → PyData.canLayAll0 ps = true ∧ PyData.depthAll ps ≤ k := fun e =>
      ⟨lay_all (fun d p h => (toP_lay k d p h).1) (mapM_some e), depth_all (fun d p h => (toP_lay k d p h).2) (mapM_some e)⟩
    unfold toP at h
    cases d with
    | non => cases h; simp [PyData.canLay0, PyData.depth]
    | bl b => cases h; simp [PyData.canLay0, PyData.depth]
    | int b => cases h; simp [PyData.canLay0, PyData.depth]
    | str x =>
      dsimp only at h
      split at h
      · rename_i q
        cases h; simp [PyData.canLay0, PyData.depth, q]
      · cases h
    | tup ds =>
      obtain ⟨ps, e, rfl⟩ := Option.map_eq_some_iff.mp h
      obtain ⟨h1, h2⟩ := lst e
      simp only [PyData.canLay0, PyData.depth]
      exact ⟨h1, by omega⟩
    | scr ds =>
      obtain ⟨ps, e, rfl⟩ := Option.map_eq_some_iff.mp h
      obtain ⟨h1, h2⟩ := lst e
      simp only [PyData.canLay0, PyData.depth]
      exact ⟨h1, by omega⟩
    | ref n =>
      dsimp only at h
      cases hS : S[n]? with
      | none => rw [hS] at h; cases h
      | some o =>
        rw [hS] at h
        cases o with
        | lst ds =>
          obtain ⟨ps, e, rfl⟩ := Option.map_eq_some_iff.mp h
          obtain ⟨h1, h2⟩ := lst e
          simp only [PyData.canLay0, PyData.depth]
          exact ⟨h1, by omega⟩
        | _ => cases h
theorem toP_shaped {S : Sto} {k : Nat} {d : D} {p : PyData} (h : toP S k d = some p) (hk : k ≤ 64) : SeqAt.shaped p = true := by
  obtain ⟨h1, h2⟩ := toP_lay k d p h
  simp only [SeqAt.shaped, h1, Bool.true_and, decide_eq_true_eq]
  omega

/-! ### operators -/
def gAdd : G2 := fun x y S => match x, y with
  | .int i, .int j => .ok (.int (i + j)) S
  | .str a, .str b => if a.length + b.length ≤ lim then .ok (.str (a ++ b)) S else .err
  | .tup a, .tup b => if a.length + b.length ≤ lim then .ok (.tup (a ++ b)) S else .err
  | .ref n, .ref m => match S[n]?, S[m]? with
    | some (.lst a), some (.lst b) => if a.length + b.length ≤ lim then .ok (.ref S.length) (S ++ [.lst (a ++ b)]) else .err
    | _, _ => .err
  | _, _ => .err
def gSub : G2 := fun x y S => match x, y with
  | .int i, .int j => .ok (.int (i - j)) S
  | _, _ => .err
def gMul : G2 := fun x y S => match x, y with
  | .int i, .int j => if i.natAbs.log2 + j.natAbs.log2 < 1000000 then .ok (.int (i * j)) S else .err
  | .ref n, .int k => match S[n]? with
    | some (.lst a) => if -(2 ^ 63) ≤ k ∧ k < 2 ^ 63 ∧ a.length * k.toNat ≤ lim then .ok (.ref S.length) (S ++ [.lst (List.replicate k.toNat a).flatten]) else .err
    | _ => .err
  | _, _ => .err
def gDiv : G2 := fun x y S => match x, y with
  | .int i, .int j => if 0 < j ∧ j.natAbs.log2 < 9000 then .ok (.int (i / j)) S else .err
  | _, _ => .err
def gMod : G2 := fun x y S => match x, y with
  | .int i, .int j => if 0 < j then .ok (.int (i % j)) S else .err
  | _, _ => .err
def gPow : G2 := fun x y S => match x, y with
  | .int i, .int j => if 0 ≤ j ∧ j ≤ 1000000 ∧ i.natAbs < 2 ^ 64 then .ok (.int (i ^ j.toNat)) S else .err
  | _, _ => .err
def gNeg : G1 := fun x S => match x with
  | .int i => .ok (.int (-i)) S
  | _ => .err
def gCmp (p : Int → Int → Bool) : G2 := fun x y S => match x, y with
  | .int i, .int j => .ok (.bl (p i j)) S
  | _, _ => .err
abbrev gLt : G2 := gCmp fun i j => decide (i < j)
abbrev gLe : G2 := gCmp fun i j => decide (i ≤ j)
abbrev gGt : G2 := gCmp fun i j => decide (j < i)
abbrev gGe : G2 := gCmp fun i j => decide (j ≤ i)
def eqD (x y : D) (S : Sto) : Option Bool := match x, y with
  | .int i, .int j => some (decide (i = j))
  | .str a, .str b => some (decide (a = b))
  | .bl a, .bl b => some (decide (a = b))
  | .non, .non => some true
  | .int _, .str _ => some false
  | .str _, .int _ => some false
  | .int _, .non => some false
  | .non, .int _ => some false
  | .str _, .non => some false
  | .non, .str _ => some false
  | .bl _, .str _ => some false
  | .str _, .bl _ => some false
  | .bl _, .non => some false
  | .non, .bl _ => some false
  | x, y => match toP S 24 x, toP S 24 y with
    | some p, some q => some (PyData.eqv p q)
    | _, _ => none
def gEq : G2 := fun x y S => match eqD x y S with
  | some b => .ok (.bl b) S
  | none => .err
def gNe : G2 := fun x y S => match eqD x y S with
  | some b => .ok (.bl (!b)) S
  | none => .err
def isNon : D → Bool
  | .non => true
  | _ => false
def gIsN : G2 := fun x y S => match y with
  | .non => .ok (.bl (isNon x)) S
  | _ => .err
def gNotN : G2 := fun x y S => match y with
  | .non => .ok (.bl (!isNon x)) S
  | _ => .err
def gIsB : G2 := fun x y S => match x, y with
  | .bl a, .bl b => .ok (.bl (decide (a = b))) S
  | _, _ => .err

section
variable {K : Fg} {mg : Mg} {X : Cx}
theorem okI0 {p : Int → Int → D} {q : Int → Int → V} (r : ∀ K ρ H i j, Rep K ρ H (q i j) (p i j)) {g : G2} (hg : ∀ x y S, g x y S = match x, y with | .int i, .int j => .ok (p i j) S | _, _ => .err) : Ok2 K mg (rI0 q) g := by
  intro W ρ H σ S x y dx dy Q s rx ry h
  rw [hg] at h
  cases dx with
  | int i =>
    cases dy with
    | int j =>
      cases rx; cases ry
      exact ⟨i, j, rfl, rfl, post_val h s (r _ _ _ _ _)⟩
    | _ => exact h.elim
  | _ => exact h.elim
theorem okSub : Ok2 K mg (rI0 fun i j => .int (i - j)) gSub := okI0 (fun _ _ _ _ _ => .int _) fun x y S => rfl
theorem okCmp {p : Int → Int → Bool} : Ok2 K mg (rI0 fun i j => .bl (p i j)) (gCmp p) := okI0 (fun _ _ _ _ _ => .bl _) fun x y S => rfl
theorem okI {C : Int → Int → Prop} {p : Int → Int → D} {q : Int → Int → V} (r : ∀ K ρ H i j, Rep K ρ H (q i j) (p i j)) {g : G2} {c : Int → Int → Prop} [∀ i j, Decidable (c i j)] (hc : ∀ i j, c i j → C i j) (hg : ∀ x y S, g x y S = match x, y with | .int i, .int j => (if c i j then .ok (p i j) S else .err) | _, _ => .err) : Ok2 K mg (rI C q) g := by
  intro W ρ H σ S x y dx dy Q s rx ry h
  rw [hg] at h
  cases dx with
  | int i =>
    cases dy with
    | int j =>
      cases rx; cases ry
      dsimp only at h
      by_cases z : c i j
      · rw [if_pos z] at h
        exact ⟨i, j, rfl, rfl, hc i j z, post_val h s (r _ _ _ _ _)⟩
      · rw [if_neg z] at h; exact h.elim
    | _ => exact h.elim
  | _ => exact h.elim
theorem okDiv : Ok2 K mg (rI CDivW fun i j => .int (i / j)) gDiv := okI (c := fun i j => 0 < j ∧ j.natAbs.log2 < 9000) (fun _ _ _ _ _ => .int _) (fun _ _ h => h) fun x y S => rfl
theorem okMod : Ok2 K mg (rI (fun _ j => 0 < j) fun i j => .int (i % j)) gMod := okI (c := fun i j => 0 < j) (fun _ _ _ _ _ => .int _) (fun _ _ h => h) fun x y S => rfl
theorem okPow : Ok2 K mg (rI CPow fun i j => .int (i ^ j.toNat)) gPow := okI (c := fun i j => 0 ≤ j ∧ j ≤ 1000000 ∧ i.natAbs < 2 ^ 64) (fun _ _ _ _ _ => .int _) (fun _ _ h => h) fun x y S => rfl
def rMul : R2 := fun x y H Q => rI CMulW (fun i j => .int (i * j)) x y H Q ∨ rRep x y H Q
theorem op_mulA : OpR X (binaryOp .Mult) rMul := OpR.or op_mulW op_rep
theorem okMul : Ok2 K mg rMul gMul := by
  intro W ρ H σ S x y dx dy Q s rx ry h
  unfold gMul at h
  split at h
  · cases rx; cases ry
    split at h
    · rename_i hc
      exact .inl ⟨_, _, rfl, rfl, hc, post_val h s (.int _)⟩
    · exact h.elim
  · rename_i n k
    cases ry
    cases rx with
    | ref hn =>
      split at h
      · rename_i a hS
        split at h
        · rename_i hc
          obtain ⟨xs, hx, l⟩ := s.ob _ _ _ hS hn
          have hl : xs.length = a.length := l.length
          have rep : ∀ m : Nat, RepL K ρ H (List.replicate m xs).flatten (List.replicate m a).flatten := by
            intro m
            induction m with
            | zero => exact .nil
            | succ m ih => rw [List.replicate_succ, List.replicate_succ, List.flatten_cons, List.flatten_cons]; exact l.append ih
          exact .inr ⟨_, k, xs, rfl, rfl, hx, hc.1, hc.2.1, by rw [lim_eq, hl]; exact hc.2.2, post_lst h s (rep _)⟩
        · exact h.elim
      · exact h.elim
  · exact h.elim
def rAddA (K : Fg) : R2 := fun x y H Q => rI0 (fun i j => .int (i + j)) x y H Q ∨ (∃ i j, x = .str i ∧ y = .str j ∧ i.length + j.length ≤ sizeLine ∧ Q (.str (i ++ j)) H) ∨ rCatA K x y H Q ∨ rCat x y H Q
theorem op_addA : OpR X (binaryOp .Add) (rAddA X.K) := OpR.or op_add (OpR.or op_add_str (OpR.or op_catA op_cat))
theorem okAdd : Ok2 K mg (rAddA K) gAdd := by
  intro W ρ H σ S x y dx dy Q s rx ry h
  unfold gAdd at h
  split at h
  · cases rx; cases ry
    exact .inl ⟨_, _, rfl, rfl, post_val h s (.int _)⟩
  · cases rx; cases ry
    split at h
    · rename_i hc
      exact .inr (.inl ⟨_, _, rfl, rfl, by rw [lim_eq]; exact hc, post_val h s (.str _)⟩)
    · exact h.elim
  · rename_i a b
    cases rx with
    | tup hx l1 =>
      cases ry with
      | tup hy l2 =>
        split at h
        · rename_i hc
          refine .inr (.inr (.inl ⟨_, _, _, _, rfl, rfl, hx, hy, by rw [lim_eq, l1.length, l2.length]; exact hc, fun e => ?_, fun e e2 => ?_, fun e e2 => post_tup h s (l1.append l2)⟩))
          · obtain rfl := l1.nil_iff.mp e
            exact post_val h s (.tup hy (by simpa using l2))
          · obtain rfl := l2.nil_iff.mp e2
            exact post_val h s (.tup hx (by simpa using l1))
        · exact h.elim
  · cases rx with
    | ref hn =>
      cases ry with
      | ref hm =>
        split at h
        · rename_i a b hS hS2
          split at h
          · rename_i hc
            obtain ⟨xs, hx, l1⟩ := s.ob _ _ _ hS hn
            obtain ⟨ys, hy, l2⟩ := s.ob _ _ _ hS2 hm
            exact .inr (.inr (.inr ⟨_, _, xs, ys, rfl, rfl, hx, hy, by rw [lim_eq, l1.length, l2.length]; exact hc, post_lst h s (l1.append l2)⟩))
          · exact h.elim
        · exact h.elim
  · exact h.elim
theorem okNeg : Ok1 K mg (rU fun i => .int (-i)) gNeg := by
  intro W ρ H σ S x dx Q s rx h
  cases dx with
  | int i => cases rx; exact ⟨i, rfl, post_val h s (.int _)⟩
  | _ => exact h.elim
/-! == -/
def rEqA (K : Fg) : R2 := fun x y H Q => rEq x y H Q ∨ rEqD K x y H Q
def rNeA (K : Fg) : R2 := fun x y H Q => rNe x y H Q ∨ rNeD K x y H Q
theorem op_eqA (hu : X.A.units + 64 < cLine) : OpR X (compareOp .Eq) (rEqA X.K) := OpR.or op_eq (op_eqD hu)
theorem op_neA (hu : X.A.units + 64 < cLine) : OpR X (compareOp .NotEq) (rNeA X.K) := OpR.or op_ne (op_neD hu)
/-- what == of two data is worth -/
inductive EqIs (K : Fg) (H : Hp) (x y : V) : Bool → Prop where
  | sc (h : scal x y = true) : EqIs K H x y (decide (x = y))
  | dp {d e : PyData} (h1 : Dp K H x d) (h2 : Dp K H y e) (h3 : SeqAt.shaped d = true) (h4 : SeqAt.shaped e = true) : EqIs K H x y (PyData.eqv d e)
theorem eqD_is {ρ : List Addr} {H : Hp} {S : Sto} {x y : V} {dx dy : D} {b : Bool} (s : SR K mg ρ H S) (rx : Rep K ρ H x dx) (ry : Rep K ρ H y dy) (h : eqD dx dy S = some b) : EqIs K H x y b := by
  have sc : ∀ {k : Bool}, scal x y = true → decide (x = y) = k → EqIs K H x y k := fun h e => e ▸ .sc h
  have deep : (match toP S 24 dx, toP S 24 dy with | some p, some q => some (PyData.eqv p q) | _, _ => none) = some b → EqIs K H x y b := fun h => by
    cases h1 : toP S 24 dx with
    | none => rw [h1] at h; cases h
    | some p =>
      cases h2 : toP S 24 dy with
      | none => rw [h1, h2] at h; cases h
      | some q =>
        rw [h1, h2] at h
        cases h
        exact .dp (dp_of s _ _ _ _ rx h1) (dp_of s _ _ _ _ ry h2) (toP_shaped h1 (by decide)) (toP_shaped h2 (by decide))
  cases rx <;> cases ry <;> first
    | (unfold eqD at h; cases h; exact sc rfl (by simp))
    | exact deep h
theorem okEq : Ok2 K mg (rEqA K) gEq := by
  intro W ρ H σ S x y dx dy Q s rx ry h
  unfold gEq at h
  split at h
  · rename_i b e
    cases eqD_is s rx ry e with
    | sc hs => exact .inl ⟨hs, post_val h s (.bl _)⟩
    | dp h1 h2 h3 h4 => exact .inr ⟨_, _, h1, h2, h3, h4, post_val h s (.bl _)⟩
  · exact h.elim
theorem okNe : Ok2 K mg (rNeA K) gNe := by
  intro W ρ H σ S x y dx dy Q s rx ry h
  unfold gNe at h
  split at h
  · rename_i b e
    cases eqD_is s rx ry e with
    | sc hs => exact .inl ⟨hs, post_val h s (.bl _)⟩
    | dp h1 h2 h3 h4 => exact .inr ⟨_, _, h1, h2, h3, h4, post_val h s (.bl _)⟩
  · exact h.elim
theorem isNon_is {ρ : List Addr} {H : Hp} {x : V} {d : D} (r : Rep K ρ H x d) : decide (x = .non) = isNon d := by cases r <;> simp [isNon]
theorem okIsN : Ok2 K mg (fun x y H Q => y = .non ∧ Q (.bl (decide (x = .non))) H) gIsN := by
  intro W ρ H σ S x y dx dy Q s rx ry h
  cases dy with
  | non => cases ry; exact ⟨rfl, by rw [isNon_is rx]; exact post_val h s (.bl _)⟩
  | _ => exact h.elim
theorem okNotN : Ok2 K mg (fun x y H Q => y = .non ∧ Q (.bl (!decide (x = .non))) H) gNotN := by
  intro W ρ H σ S x y dx dy Q s rx ry h
  cases dy with
  | non => cases ry; exact ⟨rfl, by rw [isNon_is rx]; exact post_val h s (.bl _)⟩
  | _ => exact h.elim
theorem okIsB : Ok2 K mg rIsB gIsB := by
  intro W ρ H σ S x y dx dy Q s rx ry h
  unfold gIsB at h
  split at h
  · cases rx; cases ry; exact ⟨_, _, rfl, rfl, post_val h s (.bl _)⟩
  · exact h.elim
end
end RL

namespace RL
open PySem PySem.Spec PyProof.Rows L2

/-! ### flat data -/
def flatD : D → Bool
  | .non => true
  | .bl _ => true
  | .int _ => true
  | .str _ => true
  | _ => false
def toV : D → V
  | .non => .non
  | .bl b => .bl b
  | .int i => .int i
  | .str x => .str x
  | _ => .non
/-- == of flat data -/
def eqF : D → D → Bool
  | .non, .non => true
  | .bl a, .bl b => a == b
  | .bl a, .int b => (if a then 1 else 0) == b
  | .int a, .bl b => a == (if b then 1 else 0)
  | .int a, .int b => a == b
  | .str a, .str b => a == b
  | _, _ => false
section
variable {K : Fg} {mg : Mg} {ρ : List Addr} {H : Hp}
theorem flat_toV {v : V} {d : D} (r : Rep K ρ H v d) (f : flatD d = true) : v = toV d ∧ flatV v = true := by
  cases r <;> first | exact ⟨rfl, rfl⟩ | cases f
theorem eqF_eqV {d e : D} (f : flatD d = true) (g : flatD e = true) : eqV (toV d) (toV e) = eqF d e := by
  cases d <;> first | (cases f; done) | (cases e <;> first | (cases g; done) | rfl)
theorem flat_all : ∀ {vs : List V} {ds : List D}, RepL K ρ H vs ds → ds.all flatD = true → vs = ds.map toV ∧ vs.all flatV = true
  | _, _, .nil, _ => ⟨rfl, rfl⟩
  | _, _, .cons r t, f => by
    rw [List.all_cons, Bool.and_eq_true] at f
    obtain ⟨e1, f1⟩ := flat_toV r f.1
    obtain ⟨e2, f2⟩ := flat_all t f.2
    exact ⟨by rw [List.map_cons, ← e1, ← e2], by rw [List.all_cons, f1, f2] <;> rfl⟩
theorem inV_eq {x : V} {d : D} (ex : x = toV d) (fd : flatD d = true) : ∀ {ds : List D}, ds.all flatD = true → inV x (ds.map toV) = ds.any fun e => eqF e d
  | [], _ => rfl
  | e :: ds, f => by
    rw [List.all_cons, Bool.and_eq_true] at f
    have ih := inV_eq ex fd f.2
    unfold inV at ih ⊢
    rw [List.map_cons, List.any_cons, List.any_cons, ih, ex, eqF_eqV f.1 fd]
end
/-! ### dicts -/
theorem DGet.frz {H : Hp} {a : Addr} {kvs : List (Key × V)} {k : Key} {ob : Obj} (e : H a = some (.frz ob (.dK kvs))) : DGet H a (kV k) (valV kvs k) := .inl ⟨kvs, k, .inr ⟨ob, e⟩, rfl, rfl⟩
def findK (kvs : List (D × D)) (k : D) : Option D := (kvs.find? fun p => decide (p.1 = k)).map (·.2)
def putD (kvs : List (D × D)) (k v : D) : List (D × D) := if (kvs.any fun p => decide (p.1 = k)) = true then kvs.map (fun p => if p.1 = k then (p.1, v) else p) else kvs ++ [(k, v)]
def dropD (kvs : List (D × D)) (k : D) : List (D × D) := kvs.filter fun p => decide (p.1 ≠ k)
def isKey : D → Bool
  | .int _ => true
  | .str _ => true
  | _ => false
theorem keyD_inj {a b : Key} (e : keyD a = keyD b) : a = b := by
  cases a <;> cases b <;> cases e <;> rfl
theorem keyD_iff {a b : Key} : decide (keyD a = keyD b) = decide (a = b) := by
  by_cases e : a = b
  · subst e; simp
  · rw [decide_eq_false e, decide_eq_false fun q => e (keyD_inj q)]
/-- a key's value -/
theorem key_of_rep {K : Fg} {ρ : List Addr} {H : Hp} {v : V} {d : D} (r : Rep K ρ H v d) (h : isKey d = true) : ∃ k, v = kV k ∧ d = keyD k := by
  cases r <;> first | cases h | skip
  · rename_i i; exact ⟨.inl i, rfl, rfl⟩
  · rename_i i; exact ⟨.inr i, rfl, rfl⟩
theorem rep_key {K : Fg} {ρ : List Addr} {H : Hp} (k : Key) : Rep K ρ H (kV k) (keyD k) := by
  cases k with
  | inl i => exact .int i
  | inr i => exact .str i
section
variable {K : Fg} {mg : Mg} {ρ : List Addr} {H : Hp}
theorem RepKV.find {k : Key} : ∀ {ks : List (Key × V)} {kvs : List (D × D)}, RepKV K ρ H ks kvs → (valV ks k = none ∧ findK kvs (keyD k) = none) ∨ ∃ v d, valV ks k = some v ∧ findK kvs (keyD k) = some d ∧ Rep K ρ H v d
  | _, _, .nil => .inl ⟨rfl, rfl⟩
  | _, _, .cons (k := j) (v := v) (d := d) r t => by
    by_cases e : j = k
    · subst e
      exact .inr ⟨v, d, valV_pos rfl, by simp [findK], r⟩
    · have e' : ¬ keyD j = keyD k := fun q => e (keyD_inj q)
      rcases t.find (k := k) with ⟨h1, h2⟩ | ⟨v', d', h1, h2, r'⟩
      · refine .inl ⟨by rw [valV_neg e]; exact h1, ?_⟩
        unfold findK at h2 ⊢
        rw [List.find?_cons_of_neg (by simpa using e')]
        exact h2
      · refine .inr ⟨v', d', by rw [valV_neg e]; exact h1, ?_, r'⟩
        unfold findK at h2 ⊢
        rw [List.find?_cons_of_neg (by simpa using e')]
        exact h2
theorem RepKV.any {k : Key} : ∀ {ks : List (Key × V)} {kvs : List (D × D)}, RepKV K ρ H ks kvs → (ks.any fun kv => decide (kv.1 = k)) = (kvs.any fun p => decide (p.1 = keyD k))
  | _, _, .nil => rfl
  | _, _, .cons r t => by rw [List.any_cons, List.any_cons, t.any, ← keyD_iff]
theorem RepKV.repl {k : Key} {v : V} {d : D} (r : Rep K ρ H v d) : ∀ {ks : List (Key × V)} {kvs : List (D × D)}, RepKV K ρ H ks kvs →
    RepKV K ρ H (ks.map fun kv => if kv.1 = k then (kv.1, v) else kv) (kvs.map fun p => if p.1 = keyD k then (p.1, d) else p)
  | _, _, .nil => .nil
  | _, _, .cons (k := j) q t => by
    rw [List.map_cons, List.map_cons]
    by_cases e : j = k
    · subst e
      rw [if_pos rfl, if_pos rfl]
      exact .cons r (t.repl r)
    · rw [if_neg e, if_neg fun q => e (keyD_inj q)]
      exact .cons q (t.repl r)
theorem RepKV.append : ∀ {ks ks' : List (Key × V)} {kvs kvs' : List (D × D)}, RepKV K ρ H ks kvs → RepKV K ρ H ks' kvs' → RepKV K ρ H (ks ++ ks') (kvs ++ kvs')
  | _, _, _, _, .nil, h => h
  | _, _, _, _, .cons r t, h => .cons r (RepKV.append t h)
theorem RepKV.put {k : Key} {v : V} {d : D} {ks : List (Key × V)} {kvs : List (D × D)} (h : RepKV K ρ H ks kvs) (r : Rep K ρ H v d) : RepKV K ρ H (putK ks k v) (putD kvs (keyD k) d) := by
  unfold putK putD
  rw [h.any]
  split
  · exact h.repl r
  · exact h.append (.cons r .nil)
theorem RepKV.drop {k : Key} : ∀ {ks : List (Key × V)} {kvs : List (D × D)}, RepKV K ρ H ks kvs → RepKV K ρ H (dropK ks k) (dropD kvs (keyD k))
  | _, _, .nil => .nil
  | _, _, .cons (k := j) q t => by
    have ih := t.drop (k := k)
    unfold dropK dropD at ih ⊢
    by_cases e : j = k
    · subst e
      rw [List.filter_cons_of_neg (by simp), List.filter_cons_of_neg (by simp)]
      exact ih
    · rw [List.filter_cons_of_pos (by simpa using e), List.filter_cons_of_pos (by simpa using fun q => e (keyD_inj q))]
      exact .cons q ih
theorem RepKV.length : ∀ {ks : List (Key × V)} {kvs : List (D × D)}, RepKV K ρ H ks kvs → ks.length = kvs.length
  | _, _, .nil => rfl
  | _, _, .cons _ t => by rw [List.length_cons, List.length_cons, t.length]
theorem RepKV.keys : ∀ {ks : List (Key × V)} {kvs : List (D × D)}, RepKV K ρ H ks kvs → RepL K ρ H (ks.map fun p => kV p.1) (kvs.map (·.1))
  | _, _, .nil => .nil
  | _, _, .cons (k := k) r t => .cons (rep_key k) t.keys
end

/-! ### in -/
def strIn (c z : Str) : Bool := match c.cps.toList with
  | [a] => decide (a ∈ z.cps.toList)
  | _ => !(Builtin.Str.occurrences z c 0 z.length 1).isEmpty
def listIn (x : D) (ds : List D) (S : Sto) : Option Bool :=
  if (flatD x && ds.all flatD) = true then some (ds.any fun e => eqF e x)
  else match toP S 24 x, ds.mapM (toP S 24) with
    | some p, some ps => some (ps.any fun z => PyData.eqv z p)
    | _, _ => none
def inD (x y : D) (S : Sto) : Option Bool := match y with
  | .tup ds => if (flatD x && ds.all flatD) = true then some (ds.any fun e => eqF e x) else none
  | .scr ds => listIn x ds S
  | .ref n => match S[n]? with
    | some (.lst ds) => listIn x ds S
    | some (.dict kvs) => if isKey x = true then some (findK kvs x).isSome else none
    | some (.fd kvs) => if isKey x = true then some (findK kvs x).isSome else none
    | _ => none
  | .str z => match x with
    | .str c => some (strIn c z)
    | _ => none
  | _ => none
def gIn : G2 := fun x y S => match inD x y S with
  | some b => .ok (.bl b) S
  | none => .err
def gNotIn : G2 := fun x y S => match inD x y S with
  | some b => .ok (.bl (!b)) S
  | none => .err
section
variable {K : Fg} {mg : Mg} {X : Cx}
theorem op_in_dict (hu : X.A.units + 1 < cLine) : OpR X (compareOp .In) (fun x y H Q => ∃ a o, y = .ref a ∧ DGet H a x o ∧ Q (.bl o.isSome) H) := by
  intro pins s σ H x y v u Q I rx ry h
  obtain ⟨a, o, rfl, g, q⟩ := h
  cases ry
  exact d_in hu I g rx fun s' I' => ⟨.bl _, H, I', rfl, q⟩
theorem op_notIn_dict (hu : X.A.units + 1 < cLine) : OpR X (compareOp .NotIn) (fun x y H Q => ∃ a o, y = .ref a ∧ DGet H a x o ∧ Q (.bl (!o.isSome)) H) := by
  intro pins s σ H x y v u Q I rx ry h
  obtain ⟨a, o, rfl, g, q⟩ := h
  cases ry
  exact d_notIn hu I g rx fun s' I' => ⟨.bl _, H, I', rfl, q⟩
/-- what in is worth -/
inductive InIs (K : Fg) (H : Hp) (x y : V) : Bool → Prop where
  | flat {p : Addr} {xs : List V} (h : y = .ref p) (h1 : SqL K H p xs ∨ SqT K H p xs) (h2 : flatV x = true) (h3 : xs.all flatV = true) : InIs K H x y (inV x xs)
  | deep {d : PyData} {ds : List PyData} (h1 : Dp K H x d) (h2 : Dp K H y (.list ds)) (h3 : SeqAt.shaped d = true) (h4 : SeqAt.shaped (.list ds) = true) : InIs K H x y (ds.any fun z => PyData.eqv z d)
  | dict {a : Addr} {o : Option V} (h : y = .ref a) (g : DGet H a x o) : InIs K H x y o.isSome
  | sign {c : Nat} {z : Str} (h : x = .str ⟨#[c]⟩) (h1 : y = .str z) : InIs K H x y (decide (c ∈ z.cps.toList))
  | str {i j : Str} (h : x = .str i) (h1 : y = .str j) : InIs K H x y (!(Builtin.Str.occurrences j i 0 j.length 1).isEmpty)
def rInA (K : Fg) (neg : Bool) : R2 := fun x y H Q => ∃ b, InIs K H x y b ∧ Q (.bl (if neg then !b else b)) H
theorem op_inA (hu : X.A.units + 65 < cLine) : OpR X (compareOp .In) (rInA X.K false) := by
  intro pins s σ H x y v u Q I rx ry h
  obtain ⟨b, hb, q⟩ := h
  cases hb with
  | flat h h1 h2 h3 => exact op_in_seq pins s σ H x y v u Q I rx ry ⟨_, _, h, h1, h2, h3, q⟩
  | deep h1 h2 h3 h4 => exact op_inD hu pins s σ H x y v u Q I rx ry ⟨_, _, h1, h2, h3, h4, q⟩
  | dict h g => exact op_in_dict (by omega) pins s σ H x y v u Q I rx ry ⟨_, _, h, g, q⟩
  | sign h h1 => exact op_in_sign pins s σ H x y v u Q I rx ry ⟨_, _, h, h1, q⟩
  | str h h1 => exact op_in_str pins s σ H x y v u Q I rx ry ⟨_, _, h, h1, q⟩
theorem op_notInA (hu : X.A.units + 65 < cLine) : OpR X (compareOp .NotIn) (rInA X.K true) := by
  intro pins s σ H x y v u Q I rx ry h
  obtain ⟨b, hb, q⟩ := h
  cases hb with
  | flat h h1 h2 h3 => exact op_notIn_seq pins s σ H x y v u Q I rx ry ⟨_, _, h, h1, h2, h3, q⟩
  | deep h1 h2 h3 h4 => exact op_notInD hu pins s σ H x y v u Q I rx ry ⟨_, _, h1, h2, h3, h4, q⟩
  | dict h g => exact op_notIn_dict (by omega) pins s σ H x y v u Q I rx ry ⟨_, _, h, g, q⟩
  | sign h h1 => exact op_notIn_sign pins s σ H x y v u Q I rx ry ⟨_, _, h, h1, q⟩
  | str h h1 => exact op_notIn_str pins s σ H x y v u Q I rx ry ⟨_, _, h, h1, q⟩
theorem listIn_is {ρ : List Addr} {H : Hp} {S : Sto} {x : V} {dx : D} {p : Addr} {xs : List V} {ds : List D} {b : Bool} (s : SR K mg ρ H S) (rx : Rep K ρ H x dx) (hq : SqL K H p xs) (l : RepL K ρ H xs ds) (h : listIn dx ds S = some b) : InIs K H x (.ref p) b := by
  unfold listIn at h
  split at h
  · rename_i f
    rw [Bool.and_eq_true] at f
    cases h
    obtain ⟨e1, f1⟩ := flat_toV rx f.1
    obtain ⟨e2, f2⟩ := flat_all l f.2
    have q := InIs.flat (K := K) (H := H) (x := x) (y := .ref p) rfl (.inl hq) f1 f2
    rw [e2, inV_eq e1 f.1 f.2] at q
    exact q
  · split at h
    · rename_i p' ps h1 h2
      cases h
      have e : toP S 25 (.scr ds) = some (.list ps) := by
        show (ds.mapM (toP S 24)).map PyData.list = _
        rw [h2]; rfl
      exact .deep (dp_of s _ _ _ _ rx h1) (.lst hq (dpAll_of (fun d v p r h => dp_of s 24 d v p r h) l (mapM_some h2))) (toP_shaped h1 (by decide)) (toP_shaped e (by decide))
    · cases h
theorem inD_is {ρ : List Addr} {H : Hp} {S : Sto} {x y : V} {dx dy : D} {b : Bool} (s : SR K mg ρ H S) (rx : Rep K ρ H x dx) (ry : Rep K ρ H y dy) (h : inD dx dy S = some b) : InIs K H x y b := by
  cases ry with
  | tup hq l =>
    unfold inD at h
    dsimp only at h
    split at h
    · rename_i f
      rw [Bool.and_eq_true] at f
      cases h
      obtain ⟨e1, f1⟩ := flat_toV rx f.1
      obtain ⟨e2, f2⟩ := flat_all l f.2
      have q := InIs.flat (K := K) (H := H) (x := x) rfl (.inr hq) f1 f2
      rw [e2, inV_eq e1 f.1 f.2] at q
      exact q
    · cases h
  | scr hq l => exact listIn_is s rx hq.sq l h
  | ref hn =>
    unfold inD at h
    dsimp only at h
    split at h
    · rename_i ds hS
      obtain ⟨xs, hx, l⟩ := s.ob _ _ _ hS hn
      exact listIn_is s rx (.of hx) l h
    · rename_i kvs hS
      split at h
      · rename_i hk
        cases h
        obtain ⟨k, rfl, rfl⟩ := key_of_rep rx hk
        obtain ⟨ks, hx, l⟩ := s.ob _ _ _ hS hn
        have g : DGet H _ (kV k) _ := DGet.k (k := k) hx
        rcases l.find (k := k) with ⟨h1, h2⟩ | ⟨v', d', h1, h2, _⟩
        · rw [h2]; rw [h1] at g
          exact .dict rfl g
        · rw [h2]; rw [h1] at g
          exact .dict rfl g
      · cases h
    · rename_i kvs hS
      split at h
      · rename_i hk
        cases h
        obtain ⟨k, rfl, rfl⟩ := key_of_rep rx hk
        obtain ⟨ks, ob, hx, l⟩ := s.ob _ _ _ hS hn
        have g : DGet H _ (kV k) _ := DGet.frz (k := k) hx
        rcases l.find (k := k) with ⟨h1, h2⟩ | ⟨v', d', h1, h2, _⟩
        · rw [h2]; rw [h1] at g
          exact .dict rfl g
        · rw [h2]; rw [h1] at g
          exact .dict rfl g
      · cases h
    · cases h
  | str z =>
    unfold inD at h
    dsimp only at h
    split at h
    · rename_i c
      cases h
      cases rx
      unfold strIn
      split
      · rename_i a e
        have e' : c = ⟨#[a]⟩ := by
          obtain ⟨cs⟩ := c
          have e2 : cs.toList = [a] := e
          have : cs = #[a] := by
            rw [← Array.toArray_toList (xs := cs), e2]
          rw [this]
        exact .sign (by rw [e']) rfl
      · exact .str rfl rfl
    · cases h
  | _ => cases h
theorem okIn : Ok2 K mg (rInA K false) gIn := by
  intro W ρ H σ S x y dx dy Q s rx ry h
  unfold gIn at h
  split at h
  · rename_i b e
    exact ⟨b, inD_is s rx ry e, post_val h s (.bl _)⟩
  · exact h.elim
theorem okNotIn : Ok2 K mg (rInA K true) gNotIn := by
  intro W ρ H σ S x y dx dy Q s rx ry h
  unfold gNotIn at h
  split at h
  · rename_i b e
    exact ⟨b, inD_is s rx ry e, post_val h s (.bl _)⟩
  · exact h.elim
end

/-! ### x[i] -/
def gIx : G2 := fun x y S => match x, y with
  | .tup ds, .int i => match atI ds i with
    | some d => .ok d S
    | none => .err
  | .scr ds, .int i => match atI ds i with
    | some d => .ok d S
    | none => .err
  | .str z, .int i => if z.length ≤ lim then (match atI z.cps.toList i with
    | some c => .ok (.str ⟨#[c]⟩) S
    | none => .err) else .err
  | .ref n, k => match S[n]? with
    | some (.lst ds) => match k with
      | .int i => match atI ds i with
        | some d => .ok d S
        | none => .err
      | _ => .err
    | some (.dict kvs) => if isKey k = true then (match findK kvs k with
      | some d => .ok d S
      | none => .err) else .err
    | some (.fd kvs) => if isKey k = true then (match findK kvs k with
      | some d => .ok d S
      | none => .err) else .err
    | _ => .err
  | _, _ => .err
section
variable {K : Fg} {mg : Mg} {X : Cx}
theorem RepL.atI {ρ : List Addr} {H : Hp} {xs : List V} {ds : List D} {i : Int} {d : D} (l : RepL K ρ H xs ds) (h : L2.atI ds i = some d) : ∃ v, L2.atI xs i = some v ∧ Rep K ρ H v d := by
  unfold L2.atI at h ⊢
  rw [l.length]
  obtain ⟨j, e, h⟩ := Option.bind_eq_some_iff.mp h
  obtain ⟨v, q, r⟩ := l.get h
  exact ⟨v, by rw [e]; exact q, r⟩
def rIxDi : R2 := fun x y H Q => ∃ a v, x = .ref a ∧ DGet H a y (some v) ∧ Q v H
theorem ix_dict (hu : X.A.units + 1 < cLine) : IxR X rIxDi := by
  intro value slice pins s σ H x y v u Q I rx ry h hs
  obtain ⟨a, z, rfl, g, q⟩ := h
  obtain rfl : v = Value.ref a := rx
  exact tail_any (dict_typeIs I g) PySem.F.slot_dict_getitem.lookup (d_getItem hu I g ry fun w' s' I' rw' => ⟨z, H, I', rw', q⟩) hs
def rIxA (K : Fg) : R2 := fun x y H Q => rIx K x y H Q ∨ rIxDi x y H Q
theorem ix_any (hu : X.A.units + 1 < cLine) : IxR X (rIxA X.K) := IxR.or ix_seq (ix_dict hu)
theorem okIx : Ok2 K mg (rIxA K) gIx := by
  intro W ρ H σ S x y dx dy Q s rx ry h
  unfold gIx at h
  split at h
  · cases ry
    cases rx with
    | tup hq l =>
      split at h
      · rename_i d e
        obtain ⟨v, q, r⟩ := l.atI e
        exact .inl (.inr (.inl ⟨_, _, _, v, rfl, rfl, hq, q, post_val h s r⟩))
      · exact h.elim
  · cases ry
    cases rx with
    | scr hq l =>
      split at h
      · rename_i d e
        obtain ⟨v, q, r⟩ := l.atI e
        exact .inl (.inl ⟨_, _, _, v, rfl, rfl, hq.sq, q, post_val h s r⟩)
      · exact h.elim
  · cases ry; cases rx
    split at h
    · rename_i hz
      split at h
      · rename_i c e
        exact .inl (.inr (.inr ⟨_, _, c, rfl, rfl, by rw [lim_eq]; exact hz, e, post_val h s (.str _)⟩))
      · exact h.elim
    · exact h.elim
  · cases rx with
    | ref hn =>
      split at h
      · rename_i ds hS
        obtain ⟨xs, hx, l⟩ := s.ob _ _ _ hS hn
        split at h
        · cases ry
          split at h
          · rename_i d e
            obtain ⟨v, q, r⟩ := l.atI e
            exact .inl (.inl ⟨_, _, _, v, rfl, rfl, .of hx, q, post_val h s r⟩)
          · exact h.elim
        · exact h.elim
      · rename_i kvs hS
        split at h
        · rename_i hk
          obtain ⟨k, rfl, rfl⟩ := key_of_rep ry hk
          obtain ⟨ks, hx, l⟩ := s.ob _ _ _ hS hn
          split at h
          · rename_i d e
            rcases l.find (k := k) with ⟨h1, h2⟩ | ⟨v', d', h1, h2, r⟩
            · rw [h2] at e; cases e
            · rw [h2] at e; cases e
              exact .inr ⟨_, v', rfl, by rw [← h1]; exact DGet.k (k := k) hx, post_val h s r⟩
          · exact h.elim
        · exact h.elim
      · rename_i kvs hS
        split at h
        · rename_i hk
          obtain ⟨k, rfl, rfl⟩ := key_of_rep ry hk
          obtain ⟨ks, ob, hx, l⟩ := s.ob _ _ _ hS hn
          split at h
          · rename_i d e
            rcases l.find (k := k) with ⟨h1, h2⟩ | ⟨v', d', h1, h2, r⟩
            · rw [h2] at e; cases e
            · rw [h2] at e; cases e
              exact .inr ⟨_, v', rfl, by rw [← h1]; exact DGet.frz (k := k) hx, post_val h s r⟩
          · exact h.elim
        · exact h.elim
      · exact h.elim
  · exact h.elim
end

/-! ### slices -/
def cutD (xs : List D) (lo hi : Option Int) : List D := (xs.drop (HT.sIx xs.length 0 lo)).take (HT.sIx xs.length xs.length hi - HT.sIx xs.length 0 lo)
def gSl : GS := fun x lo hi S => match x with
  | .tup ds => .ok (.tup (cutD ds lo hi)) S
  | .scr ds => .ok (.ref S.length) (S ++ [.lst (cutD ds lo hi)])
  | .str z => if z.length ≤ lim then .ok (.str (cutS z lo hi)) S else .err
  | .ref n => match S[n]? with
    | some (.lst ds) => .ok (.ref S.length) (S ++ [.lst (cutD ds lo hi)])
    | _ => .err
  | _ => .err
section
variable {K : Fg} {mg : Mg} {X : Cx}
def rSlAll (K : Fg) : V → Option Int → Option Int → Hp → VK → Prop := fun x lo hi H Q => rSlA K x lo hi H Q ∨ rSlL K x lo hi H Q ∨ rSlS x lo hi H Q
theorem sl_all : SlR X (rSlAll X.K) := SlR.or sl_tupA (SlR.or sl_list sl_str)
theorem RepL.cut {ρ : List Addr} {H : Hp} {xs : List V} {ds : List D} (l : RepL K ρ H xs ds) (lo hi : Option Int) : RepL K ρ H (cutV xs lo hi) (cutD ds lo hi) := by
  unfold cutV cutD
  rw [l.length]
  exact (l.drop _).take _
theorem okSl : OkS K mg (rSlAll K) gSl := by
  intro W ρ H σ S x dx lo hi Q s rx h
  unfold gSl at h
  split at h
  · rename_i ds
    cases rx with
    | tup hq l =>
      refine .inl ⟨_, _, rfl, hq, fun e => ?_, fun e => post_tup h s (l.cut lo hi)⟩
      rw [l.length] at e
      have e' : cutD ds lo hi = ds := by
        unfold cutD
        rw [e.1, e.2]
        simp
      rw [e'] at h
      exact post_val h s (.tup hq l)
  · cases rx with
    | scr hq l => exact .inr (.inl ⟨_, _, rfl, hq.sq, post_lst h s (l.cut lo hi)⟩)
  · cases rx
    split at h
    · rename_i hz
      exact .inr (.inr ⟨_, rfl, by rw [lim_eq]; exact hz, post_val h s (.str _)⟩)
    · exact h.elim
  · cases rx with
    | ref hn =>
      split at h
      · rename_i ds hS
        obtain ⟨xs, hx, l⟩ := s.ob _ _ _ hS hn
        exact .inr (.inl ⟨_, _, rfl, .of hx, post_lst h s (l.cut lo hi)⟩)
      · exact h.elim
  · exact h.elim
end
end RL

namespace RL
open PySem PySem.Spec PyProof.Rows L2

section
variable {K : Fg} {mg : Mg} {raw : List (Nat × V)} {W : WX} {ρ : List Addr} {H : Hp} {σ : L2.St} {S : Sto}
/-- an object is written -/
theorem post_set {n : Nat} {a : Addr} {ho : HO} {o' : O} {d : D} {v : V} {Q : V → Hp → Prop} (h : Post K mg W ρ H σ (Rep K) (.ok d (S.set n o')) Q) (s : SR K mg ρ H S) (ha : ρ[n]? = some a)
    (r : ORep K mg ρ (upd H a ho) a o') (rv : Rep K ρ (upd H a ho) v d) (hm : ∃ u, H a = some u ∧ Mut (some u) := by (apply Exists.intro; apply And.intro; assumption; trivial)) : Q v (upd H a ho) :=
  h v ρ _ (stp_write (List.mem_of_getElem? ha) hm) (s.write ha hm r) rv
theorem wr {n : Nat} {a : Addr} {ho : HO} (s : SR K mg ρ H S) (ha : ρ[n]? = some a) (hm : ∃ u, H a = some u ∧ Mut (some u) := by (apply Exists.intro; apply And.intro; assumption; trivial)) : Stp ρ H ρ (upd H a ho) := stp_write (List.mem_of_getElem? ha) hm
/-- a new list, seen from a list of the same things -/
theorem post_new {o : O} {ho : HO} {Q : V → Hp → Prop} (h : Post K mg W ρ H σ (Rep K) (.ok (.ref S.length) (S ++ [o])) Q) (s : SR K mg ρ H S) {p : Addr} (hp : H p = none) (r : ORep K mg (ρ ++ [p]) (upd H p ho) p o) : Q (.ref p) (upd H p ho) :=
  h (.ref p) (ρ ++ [p]) _ (stp_new hp) (s.new hp r) (rep_new s)
end

/-! ### len, abs, int, str, min, max, sum, all -/
def gLen : GA := fun xs S => match xs with
  | [.tup ds] => .ok (.int ds.length) S
  | [.scr ds] => .ok (.int ds.length) S
  | [.str z] => if z.length ≤ lim then .ok (.int z.length) S else .err
  | [.ref n] => match S[n]? with
    | some (.lst ds) => .ok (.int ds.length) S
    | some (.dict kvs) => .ok (.int kvs.length) S
    | some (.fd kvs) => .ok (.int kvs.length) S
    | _ => .err
  | _ => .err
def gAbs : GA := fun xs S => match xs with
  | [.int i] => .ok (.int (if i < 0 then -i else i)) S
  | _ => .err
def gInt : GA := fun xs S => match xs with
  | [.int i] => .ok (.int i) S
  | [.bl b] => .ok (.int (if b then 1 else 0)) S
  | [.str a] => match PySem.intText? a with
    | some n => if a.length ≤ 640 then .ok (.int n) S else .err
    | none => .err
  | _ => .err
def gStr : GA := fun xs S => match xs with
  | [.int i] => if i.natAbs.log2 < 1920 then .ok (.str (toString i)) S else .err
  | [.str a] => .ok (.str a) S
  | _ => .err
def gMax2 : GA := fun xs S => match xs with
  | [.int i, .int j] => .ok (.int (if j > i then j else i)) S
  | _ => .err
def gMin2 : GA := fun xs S => match xs with
  | [.int i, .int j] => .ok (.int (if j < i then j else i)) S
  | _ => .err
def intsOf : List D → Option (List Int)
  | [] => some []
  | .int i :: r => (intsOf r).map (i :: ·)
  | _ :: _ => none
def blsOf : List D → Option (List Bool)
  | [] => some []
  | .bl i :: r => (blsOf r).map (i :: ·)
  | _ :: _ => none
def strsOf : List D → Option (List Str)
  | [] => some []
  | .str i :: r => (strsOf r).map (i :: ·)
  | _ :: _ => none
theorem intsOf_eq : ∀ {ds : List D} {ns : List Int}, intsOf ds = some ns → ds = ns.map D.int
  | [], _, h => by cases h; rfl
  | .int i :: r, ns, h => by
    obtain ⟨m, e, rfl⟩ := Option.map_eq_some_iff.mp h
    rw [List.map_cons, ← intsOf_eq e]
  | .non :: _, _, h | .bl _ :: _, _, h | .str _ :: _, _, h | .tup _ :: _, _, h | .scr _ :: _, _, h | .ref _ :: _, _, h => by cases h
theorem blsOf_eq : ∀ {ds : List D} {ns : List Bool}, blsOf ds = some ns → ds = ns.map D.bl
  | [], _, h => by cases h; rfl
  | .bl i :: r, ns, h => by
    obtain ⟨m, e, rfl⟩ := Option.map_eq_some_iff.mp h
    rw [List.map_cons, ← blsOf_eq e]
  | .non :: _, _, h | .int _ :: _, _, h | .str _ :: _, _, h | .tup _ :: _, _, h | .scr _ :: _, _, h | .ref _ :: _, _, h => by cases h
theorem strsOf_eq : ∀ {ds : List D} {ns : List Str}, strsOf ds = some ns → ds = ns.map D.str
  | [], _, h => by cases h; rfl
  | .str i :: r, ns, h => by
    obtain ⟨m, e, rfl⟩ := Option.map_eq_some_iff.mp h
    rw [List.map_cons, ← strsOf_eq e]
  | .non :: _, _, h | .int _ :: _, _, h | .bl _ :: _, _, h | .tup _ :: _, _, h | .scr _ :: _, _, h | .ref _ :: _, _, h => by cases h
/-- the items of a list that is read -/
def itemsL (x : D) (S : Sto) : Option (List D) := match x with
  | .scr ds => some ds
  | .ref n => match S[n]? with
    | some (.lst ds) => some ds
    | _ => none
  | _ => none
theorem itemsL_is {K : Fg} {mg : Mg} {ρ : List Addr} {H : Hp} {S : Sto} {x : V} {dx : D} {ds : List D} (s : SR K mg ρ H S) (r : Rep K ρ H x dx) (h : itemsL dx S = some ds) : ∃ a xs, x = .ref a ∧ SqL K H a xs ∧ RepL K ρ H xs ds := by
  cases r with
  | scr hq l => cases h; exact ⟨_, _, rfl, hq.sq, l⟩
  | ref hn =>
    unfold itemsL at h
    dsimp only at h
    split at h
    · rename_i ds' hS
      cases h
      obtain ⟨xs, hx, l⟩ := s.ob _ _ _ hS hn
      exact ⟨_, xs, rfl, .of hx, l⟩
    · cases h
  | _ => cases h
def gSum : GA := fun xs S => match xs with
  | [x] => match (itemsL x S).bind intsOf with
    | some ns => .ok (.int ns.sum) S
    | none => .err
  | _ => .err
def gAll : GA := fun xs S => match xs with
  | [x] => match (itemsL x S).bind blsOf with
    | some ns => .ok (.bl (ns.all id)) S
    | none => .err
  | _ => .err
def maxI (a : Int) (l : List Int) : Int := l.foldl (fun m x => if x > m then x else m) a
def minI (a : Int) (l : List Int) : Int := l.foldl (fun m x => if x < m then x else m) a
theorem maxI_spec : ∀ (l : List Int) (a : Int), (maxI a l = a ∨ maxI a l ∈ l) ∧ a ≤ maxI a l ∧ ∀ x ∈ l, x ≤ maxI a l
  | [], a => ⟨.inl rfl, Int.le_refl _, fun _ h => nomatch h⟩
  | b :: l, a => by
    have e : maxI a (b :: l) = maxI (if b > a then b else a) l := rfl
    rw [e]
    obtain ⟨h1, h2, h3⟩ := maxI_spec l (if b > a then b else a)
    have q : a ≤ (if b > a then b else a) ∧ b ≤ (if b > a then b else a) ∧ ((if b > a then b else a) = a ∨ (if b > a then b else a) = b) := by split <;> omega
    refine ⟨?_, by omega, fun x hx => ?_⟩
    · rcases h1 with h1 | h1
      · rcases q.2.2 with z | z
        · rw [h1]; exact .inl z
        · rw [h1, z]; exact .inr (List.mem_cons_self ..)
      · exact .inr (List.mem_cons_of_mem _ h1)
    · rcases List.mem_cons.mp hx with rfl | hx
      · omega
      · exact h3 x hx
theorem minI_spec : ∀ (l : List Int) (a : Int), (minI a l = a ∨ minI a l ∈ l) ∧ minI a l ≤ a ∧ ∀ x ∈ l, minI a l ≤ x
  | [], a => ⟨.inl rfl, Int.le_refl _, fun _ h => nomatch h⟩
  | b :: l, a => by
    have e : minI a (b :: l) = minI (if b < a then b else a) l := rfl
    rw [e]
    obtain ⟨h1, h2, h3⟩ := minI_spec l (if b < a then b else a)
    have q : (if b < a then b else a) ≤ a ∧ (if b < a then b else a) ≤ b ∧ ((if b < a then b else a) = a ∨ (if b < a then b else a) = b) := by split <;> omega
    refine ⟨?_, by omega, fun x hx => ?_⟩
    · rcases h1 with h1 | h1
      · rcases q.2.2 with z | z
        · rw [h1]; exact .inl z
        · rw [h1, z]; exact .inr (List.mem_cons_self ..)
      · exact .inr (List.mem_cons_of_mem _ h1)
    · rcases List.mem_cons.mp hx with rfl | hx
      · omega
      · exact h3 x hx
def gMax1 : GA := fun xs S => match xs with
  | [x] => match (itemsL x S).bind intsOf with
    | some (a :: l) => .ok (.int (maxI a l)) S
    | _ => .err
  | _ => .err
def gMin1 : GA := fun xs S => match xs with
  | [x] => match (itemsL x S).bind intsOf with
    | some (a :: l) => .ok (.int (minI a l)) S
    | _ => .err
  | _ => .err
section
variable {K : Fg} {mg : Mg} {X : Cx}
def rLenA (K : Fg) : List V → Hp → VK → Prop := fun xs H Q => (∃ x n, xs = [x] ∧ LenV K x H n ∧ Q (.int n) H) ∨ ∃ a kvs, xs = [.ref a] ∧ Rd H a (.dK kvs) ∧ Q (.int kvs.length) H
theorem call_lenA : CallR X (.builtin "len") (rLenA X.K) := CallR.or call_len fun pins s σ H xs us Q I r h => by
  obtain ⟨a, kvs, rfl, e, q⟩ := h
  rw [Vals.ref1 r]
  exact d_len I e fun t s' I' => ⟨.int _, H, I', ⟨t, rfl⟩, q⟩
theorem okLen : OkA K mg (rLenA K) gLen := by
  intro W ρ H σ S xs ds Q s r h
  unfold gLen at h
  split at h
  · cases r with
    | cons r t =>
      cases t
      cases r with
      | tup hq l => exact .inl ⟨_, _, rfl, .inr ⟨_, hq, l.length.symm⟩, post_val h s (.int _)⟩
  · cases r with
    | cons r t =>
      cases t
      cases r with
      | scr hq l => exact .inl ⟨_, _, rfl, .inl ⟨_, hq.sq, l.length.symm⟩, post_val h s (.int _)⟩
  · cases r with
    | cons r t =>
      cases t; cases r
      split at h
      · rename_i hz
        exact .inl ⟨_, _, rfl, ⟨by rw [lim_eq]; exact hz, rfl⟩, post_val h s (.int _)⟩
      · exact h.elim
  · cases r with
    | cons r t =>
      cases t
      cases r with
      | ref hn =>
        split at h
        · rename_i ds hS
          obtain ⟨xs, hx, l⟩ := s.ob _ _ _ hS hn
          exact .inl ⟨_, _, rfl, .inl ⟨_, .of hx, l.length.symm⟩, post_val h s (.int _)⟩
        · rename_i ds hS
          obtain ⟨xs, hx, l⟩ := s.ob _ _ _ hS hn
          exact .inr ⟨_, _, rfl, .inl hx, by rw [l.length]; exact post_val h s (.int _)⟩
        · rename_i ds hS
          obtain ⟨xs, ob, hx, l⟩ := s.ob _ _ _ hS hn
          exact .inr ⟨_, _, rfl, .inr ⟨ob, hx⟩, by rw [l.length]; exact post_val h s (.int _)⟩
        · exact h.elim
  · exact h.elim
theorem okAbs : OkA K mg (fun xs H Q => ∃ i, xs = [.int i] ∧ Q (.int (if i < 0 then -i else i)) H) gAbs := by
  intro W ρ H σ S xs ds Q s r h
  unfold gAbs at h
  split at h
  · cases r with
    | cons r t => cases t; cases r; exact ⟨_, rfl, post_val h s (.int _)⟩
  · exact h.elim
def rInt : List V → Hp → VK → Prop := fun xs H Q => ((∃ i, xs = [.int i] ∧ Q (.int i) H) ∨ ∃ k, xs = [.bl k] ∧ Q (.int (if k then 1 else 0)) H) ∨ ∃ a n, xs = [.str a] ∧ PySem.intText? a = some n ∧ a.length ≤ 640 ∧ Q (.int n) H
theorem call_intA : CallR X (.type "int") rInt := CallR.or call_int1 call_int_str
theorem okInt : OkA K mg rInt gInt := by
  intro W ρ H σ S xs ds Q s r h
  unfold gInt at h
  split at h
  · cases r with
    | cons r t => cases t; cases r; exact .inl (.inl ⟨_, rfl, post_val h s (.int _)⟩)
  · cases r with
    | cons r t => cases t; cases r; exact .inl (.inr ⟨_, rfl, post_val h s (.int _)⟩)
  · cases r with
    | cons r t =>
      cases t; cases r
      split at h
      · rename_i n e
        split at h
        · rename_i hz
          exact .inr ⟨_, n, rfl, e, hz, post_val h s (.int _)⟩
        · exact h.elim
      · exact h.elim
  · exact h.elim
def rStr : List V → Hp → VK → Prop := fun xs H Q => (∃ i, xs = [.int i] ∧ i.natAbs.log2 < 1920 ∧ Q (.str (toString i)) H) ∨ ∃ a, xs = [.str a] ∧ Q (.str a) H
theorem call_strA : CallR X (.type "str") rStr := CallR.or call_str_int SkE.call_str_str
theorem okStr : OkA K mg rStr gStr := by
  intro W ρ H σ S xs ds Q s r h
  unfold gStr at h
  split at h
  · cases r with
    | cons r t =>
      cases t; cases r
      split at h
      · rename_i hz
        exact .inl ⟨_, rfl, hz, post_val h s (.str _)⟩
      · exact h.elim
  · cases r with
    | cons r t => cases t; cases r; exact .inr ⟨_, rfl, post_val h s (.str _)⟩
  · exact h.elim
theorem okMax2 : OkA K mg (fun xs H Q => ∃ i j, xs = [.int i, .int j] ∧ Q (.int (if j > i then j else i)) H) gMax2 := by
  intro W ρ H σ S xs ds Q s r h
  unfold gMax2 at h
  split at h
  · cases r with
    | cons r t =>
      cases t with
      | cons r2 t => cases t; cases r; cases r2; exact ⟨_, _, rfl, post_val h s (.int _)⟩
  · exact h.elim
theorem okMin2 : OkA K mg (fun xs H Q => ∃ i j, xs = [.int i, .int j] ∧ Q (.int (if j < i then j else i)) H) gMin2 := by
  intro W ρ H σ S xs ds Q s r h
  unfold gMin2 at h
  split at h
  · cases r with
    | cons r t =>
      cases t with
      | cons r2 t => cases t; cases r; cases r2; exact ⟨_, _, rfl, post_val h s (.int _)⟩
  · exact h.elim
theorem ints_of_items {ρ : List Addr} {H : Hp} {S : Sto} {x : V} {dx : D} {ns : List Int} (s : SR K mg ρ H S) (r : Rep K ρ H x dx) (h : (itemsL dx S).bind intsOf = some ns) : ∃ a, x = .ref a ∧ SqL K H a (ns.map V.int) := by
  obtain ⟨ds, e1, e2⟩ := Option.bind_eq_some_iff.mp h
  obtain ⟨a, xs, rfl, hq, l⟩ := itemsL_is s r e1
  obtain rfl := intsOf_eq e2
  obtain rfl := l.ints
  exact ⟨a, rfl, hq⟩
theorem okSum : OkA K mg (rSum K) gSum := by
  intro W ρ H σ S xs ds Q s r h
  unfold gSum at h
  split at h
  · cases r with
    | cons r t =>
      cases t
      split at h
      · rename_i ns e
        obtain ⟨a, rfl, hq⟩ := ints_of_items s r e
        exact ⟨a, ns, rfl, hq, post_val h s (.int _)⟩
      · exact h.elim
  · exact h.elim
theorem okAll : OkA K mg (rAll K) gAll := by
  intro W ρ H σ S xs ds Q s r h
  unfold gAll at h
  split at h
  · cases r with
    | cons r t =>
      cases t
      split at h
      · rename_i ns e
        obtain ⟨ds, e1, e2⟩ := Option.bind_eq_some_iff.mp e
        obtain ⟨a, xs, rfl, hq, l⟩ := itemsL_is s r e1
        obtain rfl := blsOf_eq e2
        obtain rfl := l.bls
        exact ⟨a, ns, rfl, hq, post_val h s (.bl _)⟩
      · exact h.elim
  · exact h.elim
theorem okMax1 : OkA K mg (rMax K) gMax1 := by
  intro W ρ H σ S xs ds Q s r h
  unfold gMax1 at h
  split at h
  · cases r with
    | cons r t =>
      cases t
      split at h
      · rename_i b l e
        obtain ⟨a, rfl, hq⟩ := ints_of_items s r e
        refine ⟨a, b :: l, rfl, hq, by simp, fun m hm hy => ?_⟩
        obtain ⟨h1, h2, h3⟩ := maxI_spec l b
        have hin : maxI b l ∈ b :: l := h1.elim (fun z => by rw [z]; exact List.mem_cons_self ..) (List.mem_cons_of_mem _)
        have e1 := hy _ hin
        have e2 : m ≤ maxI b l := (List.mem_cons.mp hm).elim (fun z => by rw [z]; exact h2) (h3 m)
        rw [Int.le_antisymm e2 e1]
        exact post_val h s (.int _)
      · exact h.elim
  · exact h.elim
theorem okMin1 : OkA K mg (rMin K) gMin1 := by
  intro W ρ H σ S xs ds Q s r h
  unfold gMin1 at h
  split at h
  · cases r with
    | cons r t =>
      cases t
      split at h
      · rename_i b l e
        obtain ⟨a, rfl, hq⟩ := ints_of_items s r e
        refine ⟨a, b :: l, rfl, hq, by simp, fun m hm hy => ?_⟩
        obtain ⟨h1, h2, h3⟩ := minI_spec l b
        have hin : minI b l ∈ b :: l := h1.elim (fun z => by rw [z]; exact List.mem_cons_self ..) (List.mem_cons_of_mem _)
        have e1 := hy _ hin
        have e2 : minI b l ≤ m := (List.mem_cons.mp hm).elim (fun z => by rw [z]; exact h2) (h3 m)
        rw [Int.le_antisymm e1 e2]
        exact post_val h s (.int _)
      · exact h.elim
  · exact h.elim
end

/-! ### list(x), tuple(x), dict(pairs) -/
/-- the items of what may be gone through at once -/
def itemsS (x : D) (S : Sto) : Option (List D) := match x with
  | .tup ds => some ds
  | x => itemsL x S
theorem itemsS_is {K : Fg} {mg : Mg} {ρ : List Addr} {H : Hp} {S : Sto} {x : V} {dx : D} {ds : List D} (s : SR K mg ρ H S) (r : Rep K ρ H x dx) (h : itemsS dx S = some ds) : ∃ a xs, x = .ref a ∧ (SqL K H a xs ∨ SqT K H a xs) ∧ RepL K ρ H xs ds := by
  cases r with
  | tup hq l => cases h; exact ⟨_, _, rfl, .inr hq, l⟩
  | scr hq l =>
    obtain ⟨a, xs, e, q, l⟩ := itemsL_is s (.scr hq l) h
    exact ⟨a, xs, e, .inl q, l⟩
  | ref hn =>
    obtain ⟨a, xs, e, q, l⟩ := itemsL_is s (.ref hn) h
    exact ⟨a, xs, e, .inl q, l⟩
  | _ => cases h
def gList : GA := fun xs S => match xs with
  | [x] => match itemsS x S with
    | some ds => .ok (.ref S.length) (S ++ [.lst ds])
    | none => .err
  | _ => .err
def gTuple : GA := fun xs S => match xs with
  | [x] => match itemsS x S with
    | some ds => .ok (.tup ds) S
    | none => .err
  | _ => .err
section
variable {K : Fg} {mg : Mg} {X : Cx}
theorem okList : OkA K mg (fun xs H Q => ∃ p ys, xs = [.ref p] ∧ (SqL K H p ys ∨ SqT K H p ys) ∧ ∀ l, H l = none → Q (.ref l) (upd H l (.lst ys))) gList := by
  intro W ρ H σ S xs ds Q s r h
  unfold gList at h
  split at h
  · cases r with
    | cons r t =>
      cases t
      split at h
      · rename_i ds e
        obtain ⟨a, xs, rfl, hq, l⟩ := itemsS_is s r e
        exact ⟨a, xs, rfl, hq, post_lst h s l⟩
      · exact h.elim
  · exact h.elim
theorem okTuple : OkA K mg (fun xs H Q => ∃ p ys, xs = [.ref p] ∧ ((SqL K H p ys ∧ ∀ l, H l = none → Q (.ref l) (upd H l (.tup ys))) ∨ (SqT K H p ys ∧ Q (.ref p) H))) gTuple := by
  intro W ρ H σ S xs ds Q s r h
  unfold gTuple at h
  split at h
  · cases r with
    | cons r t =>
      cases t
      split at h
      · rename_i ds e
        obtain ⟨a, xs, rfl, hq, l⟩ := itemsS_is s r e
        refine ⟨a, xs, rfl, ?_⟩
        rcases hq with hq | hq
        · exact .inl ⟨hq, post_tup h s l⟩
        · exact .inr ⟨hq, post_val h s (.tup hq l)⟩
      · exact h.elim
  · exact h.elim
end
/-- the pairs of a list of pairs with keys that are numbers or texts -/
def pairsOf : List D → Option (List (D × D))
  | [] => some []
  | .tup [k, v] :: r => if isKey k = true then (pairsOf r).map ((k, v) :: ·) else none
  | _ :: _ => none
def mergeD (kvs more : List (D × D)) : List (D × D) := more.foldl (fun acc p => putD acc p.1 p.2) kvs
def gDict : GA := fun xs S => match xs with
  | [x] => match (itemsL x S).bind pairsOf with
    | some ps => .ok (.ref S.length) (S ++ [.dict (mergeD [] ps)])
    | none => .err
  | _ => .err
section
variable {K : Fg} {mg : Mg} {X : Cx} {ρ : List Addr} {H : Hp}
theorem RepKV.merge {ms : List (Key × V)} {mds : List (D × D)} (q : RepKV K ρ H ms mds) : ∀ {ks : List (Key × V)} {kvs : List (D × D)}, RepKV K ρ H ks kvs → RepKV K ρ H (mergeK ks ms) (mergeD kvs mds) := by
  induction q with
  | nil => exact fun h => h
  | cons r t ih => exact fun h => ih (h.put r)
theorem pairs_rep : ∀ {ds : List D} {xs : List V} {ps : List (D × D)}, RepL K ρ H xs ds → pairsOf ds = some ps →
    ∃ (as : List Addr) (kvs : List (Key × V)), xs = as.map V.ref ∧ Paired (fun p kv => SqT K H p [kV kv.1, kv.2]) as kvs ∧ RepKV K ρ H kvs ps
  | _, _, _, .nil, h => by cases h; exact ⟨[], [], rfl, .nil, .nil⟩
  | _, _, ps, .cons (d := d) r t, h => by
    unfold pairsOf at h
    split at h
    · rename_i e; cases e
    · rename_i k v rr e
      cases e
      split at h
      · rename_i hk
        obtain ⟨ps', e2, rfl⟩ := Option.map_eq_some_iff.mp h
        obtain ⟨as, kvs, rfl, hp, hr⟩ := pairs_rep t e2
        cases r with
        | tup hq l =>
          cases l with
          | cons rk l =>
            cases l with
            | cons rv l =>
              cases l
              obtain ⟨kk, rfl, rfl⟩ := key_of_rep rk hk
              exact ⟨_ :: as, (kk, _) :: kvs, rfl, .cons hq hp, .cons rv hr⟩
      · cases h
    · cases h
theorem okDict : OkA K mg (fun xs H Q => ∃ (a : Addr) (ps : List Addr) (kvs : List (Key × V)), xs = [.ref a] ∧ SqL K H a (ps.map V.ref) ∧ Paired (fun p kv => SqT K H p [kV kv.1, kv.2]) ps kvs ∧
    ∀ p, H p = none → Q (.ref p) (upd H p (.dK (mergeK [] kvs)))) gDict := by
  intro W ρ H σ S xs ds Q s r h
  unfold gDict at h
  split at h
  · cases r with
    | cons r t =>
      cases t
      split at h
      · rename_i ps e
        obtain ⟨ds, e1, e2⟩ := Option.bind_eq_some_iff.mp e
        obtain ⟨a, xs, rfl, hq, l⟩ := itemsL_is s r e1
        obtain ⟨as, kvs, rfl, hp, hr⟩ := pairs_rep l e2
        exact ⟨a, as, kvs, rfl, hq, hp, fun p hn => post_new h s hn ⟨_, upd_same, (RepKV.merge hr .nil).mono (stp_new hn)⟩⟩
      · exact h.elim
  · exact h.elim
end

/-! ### isinstance(x, T) for a built-in type -/
def tyD (x : D) (S : Sto) : Option String := match x with
  | .non => some "NoneType"
  | .bl _ => some "bool"
  | .int _ => some "int"
  | .str _ => some "str"
  | .tup _ => some "tuple"
  | .scr _ => some "list"
  | .ref n => match S[n]? with
    | some (.lst _) => some "list"
    | some (.dict _) => some "dict"
    | some (.fd _) => some "dict"
    | _ => none
def isiT (t T : String) : Bool := t == T || (t == "bool" && T == "int")
def gIsi (T : String) : G1 := fun x S => match tyD x S with
  | some t => .ok (.bl (isiT t T)) S
  | none => .err
theorem kitB_is : ∀ t ∈ ["NoneType", "bool", "int", "str", "tuple", "list", "dict"], ∀ T ∈ ["int", "bool", "str", "tuple", "list", "dict"], kitB t T = some (isiT t T) := by decide +kernel
theorem tyD_mem {x : D} {S : Sto} {t : String} (h : tyD x S = some t) : t ∈ ["NoneType", "bool", "int", "str", "tuple", "list", "dict"] := by
  unfold tyD at h
  split at h <;> try (cases h; decide)
  split at h
  · cases h; decide
  · cases h; decide
  · cases h; decide
  · cases h
theorem tyD_is {K : Fg} {mg : Mg} {ρ : List Addr} {H : Hp} {S : Sto} {x : V} {dx : D} {t : String} (s : SR K mg ρ H S) (r : Rep K ρ H x dx) (h : tyD dx S = some t) : TyX K H x (.type t) := by
  cases r with
  | non => cases h; exact .base .non
  | bl b => cases h; exact .base (.bl b)
  | int b => cases h; exact .base (.int b)
  | str b => cases h; exact .base (.str b)
  | tup hq l =>
    cases h
    rcases hq with (hq | ⟨o, hq⟩) | ⟨o, _, _, hk, hc, _⟩
    · exact .base (.tup hq)
    · exact .fTuple hq
    · exact .kTuple hk hc
  | scr hq l =>
    cases h
    rcases hq with ⟨o, hq⟩ | ⟨o, _, _, hk, hc, _⟩
    · exact .base (.frz hq)
    · exact .kList hk hc
  | ref hn =>
    unfold tyD at h
    dsimp only at h
    split at h
    · rename_i ds hS
      cases h
      obtain ⟨xs, hx, l⟩ := s.ob _ _ _ hS hn
      exact .base (.lst hx)
    · rename_i ds hS
      cases h
      obtain ⟨xs, hx, l⟩ := s.ob _ _ _ hS hn
      exact .base (.dK hx)
    · rename_i ds hS
      cases h
      obtain ⟨xs, ob, hx, l⟩ := s.ob _ _ _ hS hn
      exact .fDict hx
    · cases h
section
variable {X : Cx} {raw : List (Nat × V)} {W : WX} {pos p p2 : Pos} {a : Expr} {fa : DE} {x : Str} {T : String}
theorem ex_isi (hT : T ∈ ["int", "bool", "str", "tuple", "list", "dict"]) (hg : Gl X "isinstance") (hm : X.mg "isinstance" = none) (hg2 : Gl X x) (hm2 : X.mg x = none) (hv : bootBuiltins x = some (.type T)) (ha : EX X raw W a fa)
    (hn : x ≠ "__name__" := by decide) (hdb : (x == ("__debug__" : Str)) = false := by decide)
    (hs : starEach [a, .Name x p2] X.env = (false, eval a X.env) :: starEach [.Name x p2] X.env := by rfl) (hpl : (backTo pos (starEach [.Name x p2] X.env)).any (·.1) = false := by rfl) :
    EX X raw W (.Call (.Name "isinstance" p) [a, .Name x p2] [] pos) (dUn (gIsi T) fa) := by
  refine PE.imp (pe_callB call_isi hg hm (by decide +kernel) (pa_cons ha (pa_cons (pe_bltn hg2 hm2 hv (v := .ty T) rfl hn hdb) pa_nil) hs) (he := hs) (hpl := hpl)) fun σ H Q ⟨ρ, env, S, e, s, h⟩ => ?_
  refine tG_bind e s h fun d S1 v ρ1 H1 st e1 s1 r1 h1 => ?_
  unfold gIsi at h1
  split at h1
  · rename_i t et
    exact ⟨v, .ty T, .type t, .type T, isiT t T, rfl, .ty T, tyD_is s1 r1 et, kit_ty (kitB_is t (tyD_mem et) T hT), post_val h1 s1 (.bl _)⟩
  · exact h1.elim
end

/-! ### methods of built-in types -/
abbrev GM := D → List D → Sto → R D
def tyOk (T : String) (x : D) (S : Sto) : Bool := match x with
  | .str _ => T == "str"
  | .scr _ => T == "list"
  | .ref n => match S[n]? with
    | some (.lst _) => T == "list"
    | some (.dict _) => T == "dict"
    | some (.fd _) => T == "dict"
    | _ => false
  | _ => false
def dMt (T : String) (g : GM) (fo : DE) (fs : DA) : DE := fun env S => (fo env S).bind fun x S1 => if tyOk T x S1 = true then (fs env S1).bind fun xs S2 => g x xs S2 else .err
def dMt0 (T : String) (g : GM) (fo : DE) : DE := fun env S => (fo env S).bind fun x S1 => if tyOk T x S1 = true then g x [] S1 else .err
def OkM (K : Fg) (mg : Mg) (r : V → List V → Hp → VK → Prop) (g : GM) : Prop := ∀ (W : WX) (ρ : List Addr) (H : Hp) (σ : L2.St) (S : Sto) (x : V) (dx : D) (xs : List V) (ds : List D) (Q : V → Hp → Prop),
  SR K mg ρ H S → Rep K ρ H x dx → RepL K ρ H xs ds → Post K mg W ρ H σ (Rep K) (g dx ds S) Q → r x xs H Q
/-- what a method's thing is, a dict that is walked too -/
def tyVF (K : Fg) (T : String) (x : V) (H : Hp) : Prop := tyV K T x H ∨ ∃ (p : Addr) (kvs : List (Key × V)), x = .ref p ∧ T = "dict" ∧ Rd H p (.dK kvs)
theorem tyVF_is {X : Cx} {pins : List (Addr × Obj)} {σ : L2.St} {H : Hp} {s : Shared} {T : String} {x : V} {v : Value} (I : Inv X pins σ H s) (r : RelV x v) (ty : tyVF X.K T x H) :
    s.TypeIs v T ∧ ∀ a, v = .ref a → ∃ ob, s.heap.get? a = some ob ∧ ob.dict = none := by
  rcases ty with ty | ⟨p, kvs, rfl, rfl, hk⟩
  · exact tyV_is I r ty
  · cases r
    obtain ⟨_, _, _, _, o, _, _, e, ex, _⟩ := hk.ok I.hok
    refine ⟨⟨o, e, ex.1⟩, fun a e2 => ?_⟩
    cases e2
    exact ⟨o, e, ex.2.1⟩
def tBMF0 (K : Fg) (T : String) (r : V → List V → Hp → VK → Prop) (to : TE) : TE := fun σ H Q => to σ H fun x H1 => tyVF K T x H1 ∧ r x [] H1 Q
def tBMF (K : Fg) (T : String) (r : V → List V → Hp → VK → Prop) (to : TE) (t : TA) : TE := fun σ H Q => to σ H fun x H1 => tyVF K T x H1 ∧ t σ H1 fun xs H2 => r x xs H2 Q
section
variable {X : Cx} {o e : Expr} {es : List Expr} {to : TE} {t : TA} {name : Str} {apos cpos : Pos} {T id : String} {r : V → List V → Hp → VK → Prop}
theorem pe_bmF0 (pa : PlainAttrs T) (slot : Slot T name id) (hty : typeOf (.builtin id) = pure (.type "method_descriptor")) (hm : MtR X id r) (ho : PE X o to)
    (hbase : attributeBase o name X.env (eval o X.env) = eval o X.env := by rfl) (hline : (apos.endLine == cpos.line) = true := by rfl) : PE X (.Call (.Attribute o name apos) [] [] cpos) (tBMF0 X.K T r to) := by
  refine ⟨fun pins s σ H Q I h => ?_⟩
  refine wpAny_Call_method0_late hbase hline (thn (ho.run pins s σ H _ I h) fun v s1 ⟨x, H1, I1, r1, ty, q1⟩ => ?_)
  obtain ⟨h1, h2⟩ := tyVF_is I1 r1 ty
  exact ⟨T, id, pa, slot, hty, h1, h2, Calls.callWith_builtin rfl (PySem.evalArgs_none (hm pins s1 σ H1 x [] v [] Q I1 r1 .nil q1))⟩
theorem pe_bmF (pa : PlainAttrs T) (slot : Slot T name id) (hty : typeOf (.builtin id) = pure (.type "method_descriptor")) (hm : MtR X id r) (ho : PE X o to) (ha : PA X (e :: es) t)
    (hbase : attributeBase o name X.env (eval o X.env) = eval o X.env := by rfl)
    (hfew : ((backTo cpos (starEach (e :: es) X.env)).all (fun x => !x.1) && (backToKw cpos (keywordEach [] X.env)).all (fun x => x.1.isSome)
      && decide ((e :: es).length + ([] : List Keyword).length + (if ([] : List Keyword).isEmpty then 0 else 1) < 30)) = true := by rfl)
    (hline : (apos.endLine == cpos.line) = true := by rfl) (hs : starEach (e :: es) X.env = (false, eval e X.env) :: starEach es X.env := by rfl) (hplain : (backTo cpos (starEach es X.env)).any (·.1) = false := by rfl) :
    PE X (.Call (.Attribute o name apos) (e :: es) [] cpos) (tBMF X.K T r to t) := by
  refine ⟨fun pins s σ H Q I h => ?_⟩
  refine wpAny_Call_method_late hbase hfew hline rfl (thn (ho.run pins s σ H _ I h) fun v s1 ⟨x, H1, I1, r1, ty, q1⟩ => ?_)
  obtain ⟨h1, h2⟩ := tyVF_is I1 r1 ty
  refine ⟨T, id, pa, slot, hty, h1, h2, ?_⟩
  have hA := ha.run cpos pins s1 σ H1 _ I1 q1
  rw [hs] at hA ⊢
  refine Calls.callWith_builtin (by show (false || (backTo cpos (starEach es X.env)).any (·.1)) = false; rw [hplain] <;> rfl) (Calls.evalArgs_plain ?_)
  exact thn hA fun us s2 ⟨vs, H2, I2, r2, q2⟩ => hm pins s2 σ H2 x vs v us Q I2 r1 r2 q2
end
theorem tyOk_is {K : Fg} {mg : Mg} {ρ : List Addr} {H : Hp} {S : Sto} {x : V} {dx : D} {T : String} (s : SR K mg ρ H S) (r : Rep K ρ H x dx) (h : tyOk T dx S = true) : tyVF K T x H := by
  cases r with
  | str z => exact .inl (beq_iff_eq.mp h)
  | scr hq l => exact .inl (.inl ⟨beq_iff_eq.mp h, _, hq.sq⟩)
  | ref hn =>
    unfold tyOk at h
    dsimp only at h
    split at h
    · rename_i ds hS
      obtain ⟨xs, hx, l⟩ := s.ob _ _ _ hS hn
      exact .inl (.inl ⟨beq_iff_eq.mp h, _, .of hx⟩)
    · rename_i ds hS
      obtain ⟨xs, hx, l⟩ := s.ob _ _ _ hS hn
      exact .inr ⟨_, _, rfl, beq_iff_eq.mp h, .inl hx⟩
    · rename_i ds hS
      obtain ⟨xs, ob, hx, l⟩ := s.ob _ _ _ hS hn
      exact .inr ⟨_, _, rfl, beq_iff_eq.mp h, .inr ⟨ob, hx⟩⟩
    · cases h
  | _ => cases h
section
variable {X : Cx} {raw : List (Nat × V)} {W : WX} {o e : Expr} {es : List Expr} {fo : DE} {fs : DA} {name : Str} {apos cpos : Pos} {T id : String} {r : V → List V → Hp → VK → Prop} {g : GM}
theorem ex_bm (pa : PlainAttrs T) (slot : Slot T name id) (hty : typeOf (.builtin id) = pure (.type "method_descriptor")) (hm : MtR X id r) (ok : OkM X.K X.mg r g) (ho : EX X raw W o fo) (ha : AX X raw W (e :: es) fs)
    (hbase : attributeBase o name X.env (eval o X.env) = eval o X.env := by rfl)
    (hfew : ((backTo cpos (starEach (e :: es) X.env)).all (fun x => !x.1) && (backToKw cpos (keywordEach [] X.env)).all (fun x => x.1.isSome)
      && decide ((e :: es).length + ([] : List Keyword).length + (if ([] : List Keyword).isEmpty then 0 else 1) < 30)) = true := by rfl)
    (hline : (apos.endLine == cpos.line) = true := by rfl) (hs : starEach (e :: es) X.env = (false, eval e X.env) :: starEach es X.env := by rfl) (hplain : (backTo cpos (starEach es X.env)).any (·.1) = false := by rfl) :
    EX X raw W (.Call (.Attribute o name apos) (e :: es) [] cpos) (dMt T g fo fs) :=
  PE.imp (pe_bmF pa slot hty hm ho ha hbase hfew hline hs hplain) fun σ H Q ⟨ρ, env, S, e, s, h⟩ => tG_bind e s h fun d S1 v ρ1 H1 st e1 s1 r1 h1 => by
    by_cases hk : tyOk T d S1 = true
    · rw [if_pos hk] at h1
      exact ⟨tyOk_is s1 r1 hk, tG_bind e1 s1 h1 fun ds S2 vs ρ2 H2 st2 e2 s2 r2 h2 => ok W ρ2 H2 σ S2 _ _ _ _ Q s2 (r1.mono st2) r2 h2⟩
    · rw [if_neg hk] at h1; exact h1.elim
theorem ex_bm0 (pa : PlainAttrs T) (slot : Slot T name id) (hty : typeOf (.builtin id) = pure (.type "method_descriptor")) (hm : MtR X id r) (ok : OkM X.K X.mg r g) (ho : EX X raw W o fo)
    (hbase : attributeBase o name X.env (eval o X.env) = eval o X.env := by rfl) (hline : (apos.endLine == cpos.line) = true := by rfl) : EX X raw W (.Call (.Attribute o name apos) [] [] cpos) (dMt0 T g fo) :=
  PE.imp (pe_bmF0 pa slot hty hm ho hbase hline) fun σ H Q ⟨ρ, env, S, e, s, h⟩ => tG_bind e s h fun d S1 v ρ1 H1 st e1 s1 r1 h1 => by
    by_cases hk : tyOk T d S1 = true
    · rw [if_pos hk] at h1
      exact ⟨tyOk_is s1 r1 hk, ok W ρ1 H1 σ S1 _ _ _ _ Q s1 r1 .nil h1⟩
    · rw [if_neg hk] at h1; exact h1.elim
end
def lstAt (x : D) (S : Sto) : Option (Nat × List D) := match x with
  | .ref n => match S[n]? with
    | some (.lst ds) => some (n, ds)
    | _ => none
  | _ => none
def dctRd (x : D) (S : Sto) : Option (List (D × D)) := match x with
  | .ref n => match S[n]? with
    | some (.dict ds) => some ds
    | some (.fd ds) => some ds
    | _ => none
  | _ => none
def dctAt (x : D) (S : Sto) : Option (Nat × List (D × D)) := match x with
  | .ref n => match S[n]? with
    | some (.dict ds) => some (n, ds)
    | _ => none
  | _ => none
section
variable {K : Fg} {mg : Mg} {ρ : List Addr} {H : Hp} {S : Sto} {x : V} {dx : D}
theorem lstAt_is {n : Nat} {ds : List D} (s : SR K mg ρ H S) (r : Rep K ρ H x dx) (h : lstAt dx S = some (n, ds)) : ∃ a xs, x = .ref a ∧ ρ[n]? = some a ∧ H a = some (.lst xs) ∧ RepL K ρ H xs ds := by
  cases r with
  | ref hn =>
    unfold lstAt at h
    dsimp only at h
    split at h
    · rename_i ds hS
      cases h
      obtain ⟨xs, hx, l⟩ := s.ob _ _ _ hS hn
      exact ⟨_, xs, rfl, hn, hx, l⟩
    · cases h
  | _ => cases h
theorem dctRd_is {kvs : List (D × D)} (s : SR K mg ρ H S) (r : Rep K ρ H x dx) (h : dctRd dx S = some kvs) : ∃ a ks, x = .ref a ∧ Rd H a (.dK ks) ∧ RepKV K ρ H ks kvs := by
  cases r with
  | ref hn =>
    unfold dctRd at h
    dsimp only at h
    split at h
    · rename_i ds hS
      cases h
      obtain ⟨xs, hx, l⟩ := s.ob _ _ _ hS hn
      exact ⟨_, xs, rfl, .inl hx, l⟩
    · rename_i ds hS
      cases h
      obtain ⟨xs, ob, hx, l⟩ := s.ob _ _ _ hS hn
      exact ⟨_, xs, rfl, .inr ⟨ob, hx⟩, l⟩
    · cases h
  | _ => cases h
theorem dctAt_is {n : Nat} {kvs : List (D × D)} (s : SR K mg ρ H S) (r : Rep K ρ H x dx) (h : dctAt dx S = some (n, kvs)) : ∃ a ks, x = .ref a ∧ ρ[n]? = some a ∧ H a = some (.dK ks) ∧ RepKV K ρ H ks kvs := by
  cases r with
  | ref hn =>
    unfold dctAt at h
    dsimp only at h
    split at h
    · rename_i ds hS
      cases h
      obtain ⟨xs, hx, l⟩ := s.ob _ _ _ hS hn
      exact ⟨_, xs, rfl, hn, hx, l⟩
    · cases h
  | _ => cases h
end
def gAppend : GM := fun x xs S => match lstAt x S, xs with
  | some (n, ds), [y] => if ds.length < lim then .ok .non (S.set n (.lst (ds ++ [y]))) else .err
  | _, _ => .err
def gExtend : GM := fun x xs S => match lstAt x S, xs with
  | some (n, ds), [y] => match lstAt y S with
    | some (_, es) => if ds.length + es.length ≤ lim then .ok .non (S.set n (.lst (ds ++ es))) else .err
    | none => .err
  | _, _ => .err
def gPop : GM := fun x xs S => match lstAt x S, xs with
  | some (n, ds), [] => match ds[ds.length - 1]? with
    | some d => .ok d (S.set n (.lst ds.dropLast))
    | none => .err
  | _, _ => .err
def gPopAt : GM := fun x xs S => match lstAt x S, xs with
  | some (n, ds), [.int i] => if -(2 ^ 63) ≤ i ∧ i < 2 ^ 63 then (match ixN ds.length i with
    | some k => match ds[k]? with
      | some d => .ok d (S.set n (.lst (ds.eraseIdx k)))
      | none => .err
    | none => .err) else .err
  | _, _ => .err
def gInsert : GM := fun x xs S => match lstAt x S, xs with
  | some (n, ds), [.int i, y] => if ds.length < lim ∧ 0 ≤ i ∧ i < 2 ^ 63 then .ok .non (S.set n (.lst (ds.take i.toNat ++ [y] ++ ds.drop i.toNat))) else .err
  | _, _ => .err
def gLClear : GM := fun x xs S => match lstAt x S, xs with
  | some (n, ds), [] => .ok .non (S.set n (.lst []))
  | _, _ => .err
def firstIx (p : D → Bool) : List D → Option Nat
  | [] => none
  | d :: r => if p d = true then some 0 else (firstIx p r).map (· + 1)
def gIndex : GM := fun x xs S => match itemsL x S, xs with
  | some ds, [y] => if (flatD y && ds.all flatD) = true then (match firstIx (fun d => eqF d y) ds with
    | some j => .ok (.int (j : Nat)) S
    | none => .err) else .err
  | _, _ => .err
def gRemove : GM := fun x xs S => match lstAt x S, xs with
  | some (n, ds), [.int k] => match intsOf ds with
    | some ns => if k ∈ ns then .ok .non (S.set n (.lst (ds.eraseIdx (ns.idxOf k)))) else .err
    | none => .err
  | _, _ => .err
def gGet2 : GM := fun x xs S => match dctRd x S, xs with
  | some kvs, [k, z] => if isKey k = true then .ok ((findK kvs k).getD z) S else .err
  | _, _ => .err
def gGet1 : GM := fun x xs S => match dctRd x S, xs with
  | some kvs, [k] => if isKey k = true then .ok ((findK kvs k).getD .non) S else .err
  | _, _ => .err
def gDPop : GM := fun x xs S => match dctAt x S, xs with
  | some (n, kvs), [k] => if isKey k = true then (match findK kvs k with
    | some d => .ok d (S.set n (.dict (dropD kvs k)))
    | none => .err) else .err
  | _, _ => .err
section
variable {K : Fg} {mg : Mg} {X : Cx}
theorem okAppend : OkM K mg rAppend gAppend := by
  intro W ρ H σ S x dx xs ds Q s r rl h
  unfold gAppend at h
  split at h
  · rename_i n ds y e
    obtain ⟨a, vs, rfl, hn, hx, l⟩ := lstAt_is s r e
    cases rl with
    | cons ry t =>
      cases t
      split at h
      · rename_i hz
        exact ⟨a, vs, _, rfl, rfl, hx, by rw [lim_eq, l.length]; exact hz, post_set h s hn ⟨_, upd_same, (l.append (.cons ry .nil)).mono (wr s hn)⟩ .non⟩
      · exact h.elim
  · exact h.elim
theorem okExtend : OkM K mg rExtend gExtend := by
  intro W ρ H σ S x dx xs ds Q s r rl h
  unfold gExtend at h
  split at h
  · rename_i n ds y e
    obtain ⟨a, vs, rfl, hn, hx, l⟩ := lstAt_is s r e
    cases rl with
    | cons ry t =>
      cases t
      split at h
      · rename_i m es e2
        obtain ⟨b, ws, rfl, hm, hy, l2⟩ := lstAt_is s ry e2
        split at h
        · rename_i hz
          exact ⟨a, b, vs, ws, rfl, rfl, hx, hy, by rw [lim_eq, l.length, l2.length]; exact hz, post_set h s hn ⟨_, upd_same, (l.append l2).mono (wr s hn)⟩ .non⟩
        · exact h.elim
      · exact h.elim
  · exact h.elim
theorem okPop : OkM K mg rPop gPop := by
  intro W ρ H σ S x dx xs ds Q s r rl h
  unfold gPop at h
  split at h
  · rename_i n ds e
    obtain ⟨a, vs, rfl, hn, hx, l⟩ := lstAt_is s r e
    cases rl
    split at h
    · rename_i d e2
      obtain ⟨v, q, rv⟩ := l.get e2
      exact ⟨a, vs, v, rfl, rfl, hx, by rw [l.length]; exact q, post_set h s hn ⟨_, upd_same, l.dropLast.mono (wr s hn)⟩ (rv.mono (wr s hn))⟩
    · exact h.elim
  · exact h.elim
theorem okPopAt : OkM K mg rPopAt gPopAt := by
  intro W ρ H σ S x dx xs ds Q s r rl h
  unfold gPopAt at h
  split at h
  · rename_i n ds i e
    obtain ⟨a, vs, rfl, hn, hx, l⟩ := lstAt_is s r e
    cases rl with
    | cons ri t =>
      cases t; cases ri
      split at h
      · rename_i hz
        split at h
        · rename_i k ek
          split at h
          · rename_i d e2
            obtain ⟨v, q, rv⟩ := l.get e2
            exact ⟨a, vs, i, k, v, rfl, rfl, hx, hz.1, hz.2, by rw [l.length]; exact (ixN_seq ek).1, q, post_set h s hn ⟨_, upd_same, (l.eraseIdx k).mono (wr s hn)⟩ (rv.mono (wr s hn))⟩
          · exact h.elim
        · exact h.elim
      · exact h.elim
  · exact h.elim
theorem okInsert : OkM K mg (fun x vs H Q => ∃ (l : Addr) (xs : List V) (i : Int) (y : V), x = .ref l ∧ vs = [.int i, y] ∧ H l = some (.lst xs) ∧ xs.length < sizeLine ∧ 0 ≤ i ∧ i < 2 ^ 63 ∧
    Q .non (upd H l (.lst (xs.take i.toNat ++ [y] ++ xs.drop i.toNat)))) gInsert := by
  intro W ρ H σ S x dx xs ds Q s r rl h
  unfold gInsert at h
  split at h
  · rename_i n ds i y e
    obtain ⟨a, vs, rfl, hn, hx, l⟩ := lstAt_is s r e
    cases rl with
    | cons ri t =>
      cases t with
      | cons ry t =>
        cases t; cases ri
        split at h
        · rename_i hz
          exact ⟨a, vs, i, _, rfl, rfl, hx, by rw [lim_eq, l.length]; exact hz.1, hz.2.1, hz.2.2, post_set h s hn ⟨_, upd_same, (((l.take _).append (.cons ry .nil)).append (l.drop _)).mono (wr s hn)⟩ .non⟩
        · exact h.elim
  · exact h.elim
theorem okLClear : OkM K mg rClear gLClear := by
  intro W ρ H σ S x dx xs ds Q s r rl h
  unfold gLClear at h
  split at h
  · rename_i n ds e
    obtain ⟨a, vs, rfl, hn, hx, l⟩ := lstAt_is s r e
    cases rl
    exact ⟨a, vs, rfl, rfl, hx, post_set h s hn ⟨_, upd_same, .nil⟩ .non⟩
  · exact h.elim
theorem firstIx_spec {p : D → Bool} : ∀ {ds : List D} {j : Nat}, firstIx p ds = some j → ∃ d, ds[j]? = some d ∧ p d = true ∧ ∀ (m : Nat) (e : D), m < j → ds[m]? = some e → p e = false
  | [], _, h => by cases h
  | d :: r, j, h => by
    unfold firstIx at h
    split at h
    · rename_i hp
      cases h
      exact ⟨d, rfl, hp, fun m e hm => absurd hm (Nat.not_lt_zero _)⟩
    · rename_i hp
      obtain ⟨k, e, rfl⟩ := Option.map_eq_some_iff.mp h
      obtain ⟨d', h1, h2, h3⟩ := firstIx_spec e
      refine ⟨d', h1, h2, fun m e hm he => ?_⟩
      cases m with
      | zero => simp at he; subst he; simpa using hp
      | succ m => exact h3 m e (by omega) (by simpa using he)
theorem okIndex : OkM K mg (rIndex K) gIndex := by
  intro W ρ H σ S x dx xs ds Q s r rl h
  unfold gIndex at h
  split at h
  · rename_i ds y e
    obtain ⟨a, vs, rfl, hq, l⟩ := itemsL_is s r e
    cases rl with
    | cons ry t =>
      cases t
      split at h
      · rename_i hf
        rw [Bool.and_eq_true] at hf
        obtain ⟨ey, fy⟩ := flat_toV ry hf.1
        obtain ⟨el, fl⟩ := flat_all l hf.2
        split at h
        · rename_i j ej
          obtain ⟨d, h1, h2, h3⟩ := firstIx_spec ej
          have at_ : ∀ (m : Nat) (d : D), ds[m]? = some d → flatD d = true ∧ vs[m]? = some (toV d) := fun m d hd =>
            ⟨List.all_eq_true.mp hf.2 d (List.mem_of_getElem? hd), by rw [el, List.getElem?_map, hd]; rfl⟩
          refine ⟨a, vs, _, j, toV d, rfl, rfl, hq, fy, fl, (at_ j d h1).2, by rw [ey, eqF_eqV (at_ j d h1).1 hf.1]; exact h2, fun m z hm hz => ?_, post_val h s (.int _)⟩
          cases hd : ds[m]? with
          | none =>
            rw [el, List.getElem?_map, hd] at hz
            cases hz
          | some d' =>
            have q := at_ m d' hd
            rw [q.2] at hz
            cases hz
            rw [ey, eqF_eqV q.1 hf.1]
            exact h3 m d' hm hd
        · exact h.elim
      · exact h.elim
  · exact h.elim
theorem idxOf_not : ∀ {l : List Int} {x : Int} {m : Nat}, m < l.idxOf x → l[m]? ≠ some x
  | [], _, _, h => by simp at h
  | a :: l, x, m, h => by
    rw [List.idxOf_cons] at h
    cases m with
    | zero =>
      intro e
      simp at e
      subst e
      simp at h
    | succ m =>
      by_cases q : a = x
      · subst q; simp at h
      · have e : (a == x) = false := by simpa using q
        rw [e] at h
        simp only [cond_false] at h
        rw [List.getElem?_cons_succ]
        exact idxOf_not (by omega)
theorem okRemove : OkM K mg rRemI gRemove := by
  intro W ρ H σ S x dx xs ds Q s r rl h
  unfold gRemove at h
  split at h
  · rename_i n ds k e
    obtain ⟨a, vs, rfl, hn, hx, l⟩ := lstAt_is s r e
    cases rl with
    | cons rk t =>
      cases t; cases rk
      split at h
      · rename_i ns en
        split at h
        · rename_i hk
          obtain rfl := intsOf_eq en
          obtain rfl := l.ints
          refine ⟨a, ns, k, ns.idxOf k, rfl, rfl, hx, ?_, fun m hm e => ?_, ?_⟩
          · rw [List.getElem?_eq_getElem (List.idxOf_lt_length_of_mem hk), List.getElem_idxOf]
          · exact idxOf_not hm e
          · have e1 : ∀ (l : List Int) (j : Nat), (l.map V.int).eraseIdx j = (l.eraseIdx j).map V.int := erase_mapI
            refine post_set h s hn ⟨_, upd_same, ?_⟩ .non
            have q := (l.eraseIdx (ns.idxOf k)).mono (wr (ho := .lst ((ns.eraseIdx (ns.idxOf k)).map V.int)) s hn)
            rw [e1] at q
            exact q
        · exact h.elim
      · exact h.elim
  · exact h.elim
def rGet2 : V → List V → Hp → VK → Prop := fun x xs H Q => ∃ a y z o, x = .ref a ∧ xs = [y, z] ∧ DGet H a y o ∧ Q (o.getD z) H
theorem mt_get2 (hu : X.A.units + 1 < cLine) : MtR X "dict.get" rGet2 := by
  intro pins s σ H x xs v us Q I rx rxs h
  obtain ⟨a, y, z, o, rfl, rfl, g, q⟩ := h
  cases rx
  obtain ⟨u, w, rfl, ru, rw'⟩ := vals2 rxs
  exact d_get2 hu I g ru rw' fun w' s' I' r => ⟨_, H, I', r, q⟩
def rGet1 : V → List V → Hp → VK → Prop := fun x xs H Q => ∃ a y o, x = .ref a ∧ xs = [y] ∧ DGet H a y o ∧ Q (o.getD .non) H
theorem mt_get1 (hu : X.A.units + 1 < cLine) : MtR X "dict.get" rGet1 := by
  intro pins s σ H x xs v us Q I rx rxs h
  obtain ⟨a, y, o, rfl, rfl, g, q⟩ := h
  cases rx
  obtain ⟨u, rfl, ru⟩ := vals1 rxs
  exact d_get1 hu I g ru fun w' s' I' r => ⟨_, H, I', r, q⟩
theorem DGet.kF {H : Hp} {a : Addr} {kvs : List (Key × V)} {k : Key} (e : Rd H a (.dK kvs)) : DGet H a (kV k) (valV kvs k) := .inl ⟨kvs, k, e, rfl, rfl⟩
theorem okGet2 : OkM K mg rGet2 gGet2 := by
  intro W ρ H σ S x dx xs ds Q s r rl h
  unfold gGet2 at h
  split at h
  · rename_i kvs k z e
    obtain ⟨a, ks, rfl, hx, l⟩ := dctRd_is s r e
    cases rl with
    | cons rk t =>
      cases t with
      | cons rz t =>
        cases t
        split at h
        · rename_i hk
          obtain ⟨kk, rfl, rfl⟩ := key_of_rep rk hk
          refine ⟨a, _, _, _, rfl, rfl, DGet.kF (k := kk) hx, ?_⟩
          rcases l.find (k := kk) with ⟨h1, h2⟩ | ⟨v', d', h1, h2, r⟩
          · rw [h1]; rw [h2] at h; exact post_val h s rz
          · rw [h1]; rw [h2] at h; exact post_val h s r
        · exact h.elim
  · exact h.elim
theorem okGet1 : OkM K mg rGet1 gGet1 := by
  intro W ρ H σ S x dx xs ds Q s r rl h
  unfold gGet1 at h
  split at h
  · rename_i kvs k e
    obtain ⟨a, ks, rfl, hx, l⟩ := dctRd_is s r e
    cases rl with
    | cons rk t =>
      cases t
      split at h
      · rename_i hk
        obtain ⟨kk, rfl, rfl⟩ := key_of_rep rk hk
        refine ⟨a, _, _, rfl, rfl, DGet.kF (k := kk) hx, ?_⟩
        rcases l.find (k := kk) with ⟨h1, h2⟩ | ⟨v', d', h1, h2, r⟩
        · rw [h1]; rw [h2] at h; exact post_val h s .non
        · rw [h1]; rw [h2] at h; exact post_val h s r
      · exact h.elim
  · exact h.elim
def rDPop : V → List V → Hp → VK → Prop := fun x xs H Q => ∃ a kvs k v, x = .ref a ∧ xs = [kV k] ∧ H a = some (.dK kvs) ∧ valV kvs k = some v ∧ Q v (upd H a (.dK (dropK kvs k)))
theorem mt_dpop : MtR X "dict.pop" rDPop := by
  intro pins s σ H x xs v us Q I rx rxs h
  obtain ⟨a, kvs, k, w, rfl, rfl, e, hv, q⟩ := h
  cases rx
  obtain ⟨u, rfl, ru⟩ := vals1 rxs
  exact d_pop (more := []) I e ru hv (.inl rfl) fun w' s' I' r => ⟨_, _, I', r, q⟩
theorem okDPop : OkM K mg rDPop gDPop := by
  intro W ρ H σ S x dx xs ds Q s r rl h
  unfold gDPop at h
  split at h
  · rename_i n kvs k e
    obtain ⟨a, ks, rfl, hn, hx, l⟩ := dctAt_is s r e
    cases rl with
    | cons rk t =>
      cases t
      split at h
      · rename_i hk
        obtain ⟨kk, rfl, rfl⟩ := key_of_rep rk hk
        split at h
        · rename_i d ed
          rcases l.find (k := kk) with ⟨h1, h2⟩ | ⟨v', d', h1, h2, r⟩
          · rw [h2] at ed; cases ed
          · rw [h2] at ed; cases ed
            exact ⟨a, ks, kk, v', rfl, rfl, hx, h1, post_set h s hn ⟨_, upd_same, l.drop.mono (wr s hn)⟩ (r.mono (wr s hn))⟩
        · exact h.elim
      · exact h.elim
  · exact h.elim
end

/-! ### methods of texts -/
def gSplit : GM := fun x xs S => match x, xs with
  | .str a, [.str b] => if (b.length == 0) = false ∧ a.length + 2 ≤ lim then .ok (.ref S.length) (S ++ [.lst ((Txt.split a b).map D.str)]) else .err
  | _, _ => .err
def gJoin : GM := fun x xs S => match x, xs with
  | .str a, [y] => match (itemsS y S).bind strsOf with
    | some ys => if (ys.map (·.length)).sum + ys.length * a.length ≤ 16777216 then .ok (.str (Txt.join a ys)) S else .err
    | none => .err
  | _, _ => .err
def gUpper : GM := fun x xs S => match x, xs with
  | .str a, [] => if a.length ≤ 5592405 then .ok (.str (Txt.upper a)) S else .err
  | _, _ => .err
def gStarts : GM := fun x xs S => match x, xs with
  | .str a, [.str b] => .ok (.bl (Txt.startswith a b)) S
  | _, _ => .err
def gFind : GM := fun x xs S => match x, xs with
  | .str a, [.str b] => .ok (.int (Txt.find a b)) S
  | _, _ => .err
section
variable {K : Fg} {mg : Mg} {X : Cx}
theorem okSplit : OkM K mg (fun x xs H Q => ∃ a b, x = .str a ∧ xs = [.str b] ∧ (b.length == 0) = false ∧ a.length + 2 ≤ sizeLine ∧ rNewStrs (Txt.split a b) H Q) gSplit := by
  intro W ρ H σ S x dx xs ds Q s r rl h
  unfold gSplit at h
  split at h
  · cases r
    cases rl with
    | cons rk t =>
      cases t; cases rk
      split at h
      · rename_i hz
        exact ⟨_, _, rfl, rfl, hz.1, by rw [lim_eq]; exact hz.2, post_lst h s (repL_strs _)⟩
      · exact h.elim
  · exact h.elim
theorem okJoin : OkM K mg (fun x xs H Q => ∃ a p, ∃ ys : List Str, x = .str a ∧ xs = [.ref p] ∧ (SqL K H p (ys.map V.str) ∨ SqT K H p (ys.map V.str)) ∧
    (ys.map (·.length)).sum + ys.length * a.length ≤ 16777216 ∧ Q (.str (Txt.join a ys)) H) gJoin := by
  intro W ρ H σ S x dx xs ds Q s r rl h
  unfold gJoin at h
  split at h
  · cases r
    cases rl with
    | cons rk t =>
      cases t
      split at h
      · rename_i ys e
        split at h
        · rename_i hz
          obtain ⟨ds, e1, e2⟩ := Option.bind_eq_some_iff.mp e
          obtain ⟨a, xs, rfl, hq, l⟩ := itemsS_is s rk e1
          obtain rfl := strsOf_eq e2
          obtain rfl := l.strs
          exact ⟨_, a, ys, rfl, rfl, hq, hz, post_val h s (.str _)⟩
        · exact h.elim
      · exact h.elim
  · exact h.elim
theorem okUpper : OkM K mg (fun x xs H Q => ∃ a, x = .str a ∧ xs = [] ∧ a.length ≤ 5592405 ∧ Q (.str (Txt.upper a)) H) gUpper := by
  intro W ρ H σ S x dx xs ds Q s r rl h
  unfold gUpper at h
  split at h
  · cases r; cases rl
    split at h
    · rename_i hz
      exact ⟨_, rfl, rfl, hz, post_val h s (.str _)⟩
    · exact h.elim
  · exact h.elim
theorem okStarts : OkM K mg (fun x xs H Q => ∃ a b, x = .str a ∧ xs = [.str b] ∧ Q (.bl (Txt.startswith a b)) H) gStarts := by
  intro W ρ H σ S x dx xs ds Q s r rl h
  unfold gStarts at h
  split at h
  · cases r
    cases rl with
    | cons rk t => cases t; cases rk; exact ⟨_, _, rfl, rfl, post_val h s (.bl _)⟩
  · exact h.elim
theorem okFind : OkM K mg (fun x xs H Q => ∃ a b, x = .str a ∧ xs = [.str b] ∧ Q (.int (Txt.find a b)) H) gFind := by
  intro W ρ H σ S x dx xs ds Q s r rl h
  unfold gFind at h
  split at h
  · cases r
    cases rl with
    | cons rk t => cases t; cases rk; exact ⟨_, _, rfl, rfl, post_val h s (.int _)⟩
  · exact h.elim
end
end RL

namespace RL
open PySem PySem.Spec PyProof.Rows L2

/-! ### blocks -/
def dSkip : DS := fun env S => .nx env S
def dSeq (f g : DS) : DS := fun env S => match f env S with
  | .nx e S' => g e S'
  | r => r
def dBreak : DS := fun env S => .bk env S
def dCont : DS := fun env S => .ct env S
def dDrop (f : DE) : DS := fun env S => thenS (f env S) env fun _ S' => .nx env S'
def dRet (f : DE) : DS := fun env S => thenS (f env S) env fun d S' => .rt d S'
def dRetN : DS := fun _ S => .rt .non S
def dIf (t : DT) (f g : DS) : DS := fun env S => thenS (t env S) env fun k S' => if k = true then f env S' else g env S'
def dSet (i : Nat) (f : DE) : DS := fun env S => thenS (f env S) env fun d S' => .nx (env.set i (some d)) S'
def dAug (i : Nat) (g : G2) (f : DE) : DS := fun env S => match env[i]? with
  | some (some x) => thenS ((f env S).bind fun y S1 => g x y S1) env fun z S2 => .nx (env.set i (some z)) S2
  | _ => .err
def dRaise (c : Str) : DS := fun env S => .exc c env S

section
variable {X : Cx} {raw : List (Nat × V)} {W : WX} {pos : Pos} {st : Stmt} {rest a b : List Stmt} {f g : DS} {e : Expr} {fe : DE} {t : DT}
theorem bx_nil : BX X raw W [] dSkip := PSs.imp pss_nil fun σ H D ⟨ρ, env, S, e, s, h⟩ => h σ ρ H (Stp.refl _ _) s e
theorem bx_cons (h1 : SX X raw W st f) (h2 : BX X raw W rest g) : BX X raw W (st :: rest) (dSeq f g) :=
  PSs.imp (pss_cons h1 h2) fun σ H D ⟨ρ, env, S, e, s, h⟩ => ⟨ρ, env, S, e, s, by
    unfold dSeq at h
    cases q : f env S with
    | nx e1 S1 =>
      rw [q] at h
      exact fun σ' ρ' H' st sr er => ⟨ρ', e1, S1, er, sr, PostS.later h st⟩
    | rt d S1 => rw [q] at h; exact h
    | bk d S1 => rw [q] at h; exact h
    | ct d S1 => rw [q] at h; exact h
    | exc c d S1 => rw [q] at h; exact h
    | err => rw [q] at h; exact h⟩
theorem bx_one (h1 : SX X raw W st f) : BX X raw W [st] f := pss_one h1
theorem sx_pass : SX X raw W (.Pass pos) dSkip := PS.imp ps_pass fun σ H D ⟨ρ, env, S, e, s, h⟩ => h σ ρ H (Stp.refl _ _) s e
theorem sx_break : SX X raw W (.Break pos) dBreak := PS.imp ps_break fun σ H D ⟨ρ, env, S, e, s, h⟩ => h σ ρ H (Stp.refl _ _) s e
theorem sx_continue : SX X raw W (.Continue pos) dCont := PS.imp ps_continue fun σ H D ⟨ρ, env, S, e, s, h⟩ => h σ ρ H (Stp.refl _ _) s e
theorem sx_expr (he : EX X raw W e fe) (hs : swapsWith e none pos.line X.env = pure false := by rfl) : SX X raw W (.Expr e pos) (dDrop fe) :=
  PS.imp (ps_expr he hs) fun σ H D ⟨ρ, env, S, e, s, h⟩ => tG_thenS e s h fun d S1 v ρ1 H1 st e1 s1 r1 h1 => h1 σ ρ1 H1 (Stp.refl _ _) s1 e1
theorem sx_ret (he : EX X raw W e fe) : SX X raw W (.Return (some e) pos) (dRet fe) :=
  PS.imp (ps_ret he) fun σ H D ⟨ρ, env, S, e, s, h⟩ => tG_thenS e s h fun d S1 v ρ1 H1 st e1 s1 r1 h1 => h1 v ρ1 H1 (Stp.refl _ _) s1 r1
theorem sx_retN : SX X raw W (.Return none pos) dRetN := PS.imp ps_retN fun σ H D ⟨ρ, env, S, e, s, h⟩ => h .non ρ H (Stp.refl _ _) s .non
theorem sx_if {c : Expr} (hc : TX X raw W c t) (ha : BX X raw W a f) (hb : BX X raw W b g) : SX X raw W (.If c a b pos) (dIf t f g) :=
  PS.imp (ps_if hc ha hb) fun σ H D ⟨ρ, env, S, e, s, h⟩ => tG_thenS e s h fun k S1 v ρ1 H1 st e1 s1 r1 h1 => by
    cases r1
    by_cases hk : k = true
    · rw [if_pos hk] at h1 ⊢; exact ⟨ρ1, env, S1, e1, s1, h1⟩
    · rw [if_neg hk] at h1 ⊢; exact ⟨ρ1, env, S1, e1, s1, h1⟩
theorem noraw {i : Nat} : ∀ p ∈ ([] : List (Nat × V)), p.1 ≠ i := fun _ h => nomatch h
theorem sx_set {i : Nat} {x : Str} {pos' : Pos} (hN : X.N.Nodup) (hi : X.N[i]? = some x) (hx : Loc X.env.scope x) (he : EX X raw W e fe) (hs : swapsWith e (some (.Name x pos')) pos.line X.env = pure false := by rfl)
    (hr : ∀ p ∈ raw, p.1 ≠ i := by exact noraw) (hf : X.fn x = true ∨ X.env.scope.names.lookup x = some .local := by first | exact .inl rfl | exact .inr rfl | assumption) : SX X raw W (.Assign [.Name x pos'] e pos) (dSet i fe) :=
  PS.imp (ps_set hN hi hx he hs hf) fun σ H D ⟨ρ, env, S, e, s, h⟩ => tG_thenS e s h fun d S1 v ρ1 H1 st e1 s1 r1 h1 => h1 _ ρ1 H1 (Stp.refl _ _) s1 (e1.set r1 hr)
theorem sx_aug {i : Nat} {x : Str} {pos' : Pos} {op : Operator} {r : R2} {g : G2} (ho : OpR X (inplaceOp op) r) (ok : Ok2 X.K X.mg r g) (hN : X.N.Nodup) (hi : X.N[i]? = some x) (hx : Loc X.env.scope x) (he : EX X raw W e fe)
    (hr : ∀ p ∈ raw, p.1 ≠ i := by exact noraw) (hf : X.fn x = true ∨ X.env.scope.names.lookup x = some .local := by first | exact .inl rfl | exact .inr rfl | assumption) : SX X raw W (.AugAssign (.Name x pos') op e pos) (dAug i g fe) :=
  PS.imp (ps_aug hN hi hx he (ti := r) ho hf) fun σ H D ⟨ρ, env, S, e, s, h⟩ => by
    unfold dAug at h
    split at h
    · rename_i d hd
      obtain ⟨v, hv, rv⟩ := e.at_ i d hd
      refine ⟨v, hv, ?_⟩
      have h' : PostS X.K X.mg raw W ρ H (thenS (fe env S) env fun y S1 => thenS (g d y S1) env fun z S2 => .nx (env.set i (some z)) S2) D := by
        cases q : fe env S <;> rw [q] at h <;> exact h
      exact tG_thenS e s h' fun y S1 w ρ1 H1 st1 e1 s1 r1 h1 => ok W ρ1 H1 σ S1 _ _ _ _ _ s1 (rv.mono st1) r1 (by
        cases q : g d y S1 with
        | ok z S2 =>
          rw [q] at h1
          exact fun v2 ρ2 H2 st2 s2 r2 => h1 _ ρ2 H2 st2 s2 ((e1.mono st2).set r2 hr)
        | exc c S2 =>
          rw [q] at h1
          exact fun C ρ' H' gc st sr => h1 C σ ρ' H' gc st sr (e1.mono st)
        | err => rw [q] at h1; exact h1)
    · exact h.elim
end

/-! ### targets -/
abbrev DG := D → Env → Sto → R Env
abbrev DGs := List D → Env → Sto → R Env
def PostG (K : Fg) (mg : Mg) (raw : List (Nat × V)) (ρ : List Addr) (H : Hp) (r : R Env) (Q : L2.St → Hp → Prop) : Prop :=
  match r with
  | .ok e S' => ∀ σ' ρ' H', Stp ρ H ρ' H' → SR K mg ρ' H' S' → ER K raw ρ' H' e σ' → Q σ' H'
  | _ => False
def tGt (K : Fg) (mg : Mg) (raw : List (Nat × V)) (f : DG) : TG := fun v σ H Q => ∃ ρ env S d, ER K raw ρ H env σ ∧ SR K mg ρ H S ∧ Rep K ρ H v d ∧ PostG K mg raw ρ H (f d env S) Q
def tGts (K : Fg) (mg : Mg) (raw : List (Nat × V)) (f : DGs) : TGs := fun vs σ H Q => ∃ ρ env S ds, ER K raw ρ H env σ ∧ SR K mg ρ H S ∧ RepL K ρ H vs ds ∧ PostG K mg raw ρ H (f ds env S) Q
theorem PostG.later {K : Fg} {mg : Mg} {raw : List (Nat × V)} {ρ ρ1 : List Addr} {H H1 : Hp} {r : R Env} {Q : L2.St → Hp → Prop} (h : PostG K mg raw ρ H r Q) (s : Stp ρ H ρ1 H1) : PostG K mg raw ρ1 H1 r Q := by
  cases r with
  | ok e S' => exact fun v ρ' H' s' => h v ρ' H' (s.trans s')
  | exc c S' => exact h
  | err => exact h
theorem PG.imp {X : Cx} {e : Expr} {t t' : TG} (h : PG X e t) (q : ∀ v σ H Q, t' v σ H Q → t v σ H Q) : PG X e t' := ⟨fun pins s σ H v u Q I r z => h.run pins s σ H v u Q I r (q v σ H Q z)⟩
theorem PGs.imp {X : Cx} {e : List Expr} {t t' : TGs} (h : PGs X e t) (q : ∀ v σ H Q, t' v σ H Q → t v σ H Q) : PGs X e t' := ⟨fun pins s σ H v u Q I r z => h.run pins s σ H v u Q I r (q v σ H Q z)⟩
abbrev GX (X : Cx) (raw : List (Nat × V)) (e : Expr) (f : DG) : Prop := PG X e (tGt X.K X.mg raw f)
abbrev GsX (X : Cx) (raw : List (Nat × V)) (e : List Expr) (f : DGs) : Prop := PGs X e (tGts X.K X.mg raw f)
def sName (i : Nat) : DG := fun d env S => .ok (env.set i (some d)) S
def sNil : DGs := fun ds env S => match ds with
  | [] => .ok env S
  | _ => .err
def sCons (f : DG) (g : DGs) : DGs := fun ds env S => match ds with
  | d :: r => (f d env S).bind fun e S1 => g r e S1
  | [] => .err
def sTup (n : Nat) (g : DGs) : DG := fun d env S => match d with
  | .tup ds => if ds.length = n then g ds env S else .err
  | _ => .err
/-- o[i] = v -/
def setI (o i v : D) (S : Sto) : R Unit := match o with
  | .ref n => match S[n]? with
    | some (.lst ds) => match i with
      | .int k => match ixN ds.length k with
        | some j => .ok () (S.set n (.lst (ds.set j v)))
        | none => .err
      | _ => .err
    | some (.dict kvs) => if isKey i = true ∧ kvs.length < lim then .ok () (S.set n (.dict (putD kvs i v))) else .err
    | _ => .err
  | _ => .err
def noEx {α : Type} : R α → R α
  | .exc _ _ => .err
  | r => r
def sSub (fo fi : DE) : DG := fun v env S => (noEx (fo env S)).bind fun o S1 => (noEx (fi env S1)).bind fun i S2 => (setI o i v S2).bind fun _ S3 => .ok env S3
section
variable {X : Cx} {raw : List (Nat × V)} {W : WX} {pos : Pos}
theorem gx_name {i : Nat} {x : Str} (hN : X.N.Nodup) (hi : X.N[i]? = some x) (hx : Loc X.env.scope x) (hr : ∀ p ∈ raw, p.1 ≠ i := by exact noraw) (hf : X.fn x = true ∨ X.env.scope.names.lookup x = some .local := by first | exact .inl rfl | exact .inr rfl | assumption) : GX X raw (.Name x pos) (sName i) :=
  PG.imp (pg_name hN hi hx hf) fun v σ H Q ⟨ρ, env, S, d, e, s, r, h⟩ => h _ ρ H (Stp.refl _ _) s (e.set r hr)
theorem gsx_nil : GsX X raw [] sNil := PGs.imp pgs_nil fun vs σ H Q ⟨ρ, env, S, ds, e, s, r, h⟩ => by
  cases r with
  | nil => exact ⟨rfl, h σ ρ H (Stp.refl _ _) s e⟩
  | cons _ _ => exact h.elim
theorem gsx_cons {e : Expr} {es : List Expr} {f : DG} {g : DGs} (h1 : GX X raw e f) (h2 : GsX X raw es g)
    (hs : (assignEach (e :: es) X.env).map (·.2) = assign e X.env :: (assignEach es X.env).map (·.2) := by rfl) : GsX X raw (e :: es) (sCons f g) :=
  PGs.imp (pgs_cons h1 h2 hs) fun vs σ H Q ⟨ρ, env, S, ds, e, s, r, h⟩ => by
    cases r with
    | nil => exact h.elim
    | @cons v' vs' d ds rv rr =>
      refine ⟨_, _, rfl, ρ, env, S, d, e, s, rv, ?_⟩
      unfold sCons at h
      dsimp only at h
      cases q : f d env S with
      | ok e1 S1 =>
        rw [q] at h
        exact fun σ' ρ' H' st sr er => ⟨ρ', e1, S1, ds, er, sr, rr.mono st, PostG.later h st⟩
      | exc c S1 => rw [q] at h; exact h.elim
      | err => rw [q] at h; exact h.elim
theorem gx_tup {es : List Expr} {k : Nat} {g : DGs} {n : Nat} (hc : X.calm = true) (h : GsX X raw es g)
    (hn : (assignEach es X.env).length = n := by rfl) (hst : (assignEach es X.env).findIdx? (·.1) = none := by rfl) : GX X raw (.Tuple es k pos) (sTup n g) :=
  PG.imp (pg_tup hc h hn hst) fun v σ H Q ⟨ρ, env, S, d, e, s, r, h⟩ => by
    unfold sTup at h
    split at h
    · rename_i ds
      split at h
      · rename_i hl
        cases r with
        | tup hq l => exact ⟨_, _, rfl, hq, by rw [l.length]; exact hl, ρ, env, S, ds, e, s, l, h⟩
      · exact h.elim
    · exact h.elim
def rSetA : V → V → V → Hp → (Hp → Prop) → Prop := fun o i v H Q => rSetL o i v H Q ∨ ∃ a H', o = .ref a ∧ DPut H a i v H' ∧ Q H'
theorem set_any (hu : X.A.units + 1 < cLine) : PSet X rSetA := by
  intro pins s σ H o i v ov iv u Q I ro ri rv h
  rcases h with h | ⟨a, H', rfl, g, q⟩
  · exact set_list pins s σ H o i v ov iv u Q I ro ri rv h
  · cases ro
    exact d_setItem hu I g ri rv fun s' I' => ⟨H', I', q⟩
theorem post_setI {K : Fg} {mg : Mg} {ρ : List Addr} {H : Hp} {S : Sto} {o i v : V} {d1 d2 d3 : D} {Q : Hp → Prop} (s : SR K mg ρ H S) (ro : Rep K ρ H o d1) (ri : Rep K ρ H i d2) (rv : Rep K ρ H v d3) {S' : Sto}
    (h : setI d1 d2 d3 S = .ok () S') (hq : ∀ H', Stp ρ H ρ H' → SR K mg ρ H' S' → Q H') : rSetA o i v H Q := by
  unfold setI at h
  split at h
  · cases ro with
    | ref hn =>
      split at h
      · rename_i ds hS
        obtain ⟨xs, hx, l⟩ := s.ob _ _ _ hS hn
        split at h
        · cases ri
          split at h
          · rename_i j ej
            cases h
            exact .inl ⟨_, xs, _, j, rfl, rfl, hx, by rw [l.length]; exact ej, hq _ (wr s hn) (s.write hn ⟨_, hx, trivial⟩ ⟨_, upd_same, (RepL.set rv j l).mono (wr s hn)⟩)⟩
          · cases h
        · cases h
      · rename_i kvs hS
        obtain ⟨ks, hx, l⟩ := s.ob _ _ _ hS hn
        split at h
        · rename_i hk
          cases h
          obtain ⟨k, rfl, rfl⟩ := key_of_rep ri hk.1
          exact .inr ⟨_, _, rfl, DPut.k hx (by rw [l.length, lim_eq]; exact hk.2), hq _ (wr s hn) (s.write hn ⟨_, hx, trivial⟩ ⟨_, upd_same, (l.put rv).mono (wr s hn)⟩)⟩
        · cases h
      · cases h
  · cases h
abbrev W0 : WX := fun _ _ _ _ => False
theorem gx_sub {o i : Expr} {fo fi : DE} (hu : X.A.units + 1 < cLine) (ho : EX X raw W0 o fo) (hi : EX X raw W0 i fi)
    (ha : ∀ v, assign (.Subscript o i pos) X.env v = (do
      let ov ← holding [v] (eval o X.env)
      let iv ← holding [v, ov] (eval i X.env)
      standAt pos
      holding [v, ov, iv] (setItem ov iv v)
      release [v, ov, iv] []) := by intro _; rfl) : GX X raw (.Subscript o i pos) (sSub fo fi) :=
  PG.imp (pg_sub ho hi (set_any hu) ha) fun v σ H Q ⟨ρ, env, S, d, e, s, r, h⟩ => by
    unfold sSub at h
    refine ⟨ρ, env, S, e, s, ?_⟩
    cases q : fo env S with
    | ok d1 S1 =>
      rw [q] at h
      intro o1 ρ1 H1 st1 s1 r1
      refine ⟨ρ1, env, S1, e.mono st1, s1, ?_⟩
      have h1 := PostG.later h st1
      simp only [noEx, R.bind_ok] at h1
      cases q2 : fi env S1 with
      | ok d2 S2 =>
        rw [q2] at h1
        intro i2 ρ2 H2 st2 s2 r2
        have h2 := PostG.later h1 st2
        simp only [noEx, R.bind_ok] at h2
        cases q3 : setI d1 d2 d S2 with
        | ok u S3 =>
          rw [q3] at h2
          exact post_setI s2 (r1.mono st2) r2 ((r.mono st1).mono st2) q3 fun H' st3 s3 => h2 σ ρ2 H' st3 s3 (((e.mono st1).mono st2).mono st3)
        | exc c S3 => rw [q3] at h2; exact h2.elim
        | err => rw [q3] at h2; exact h2.elim
      | exc c S2 => rw [q2] at h1; exact h1.elim
      | err => rw [q2] at h1; exact h1.elim
    | exc c S1 => rw [q] at h; exact h.elim
    | err => rw [q] at h; exact h.elim
def asFl (env : Env) : R Env → Fl
  | .ok e S => .nx e S
  | .exc c S => .err
  | .err => .err
def dAsg (f : DE) (g : DG) : DS := fun env S => thenS (f env S) env fun d S1 => asFl env (g d env S1)
theorem post_asFl {K : Fg} {mg : Mg} {ρ : List Addr} {H : Hp} {env : Env} {r : R Env} {D : Ends} (h : PostS K mg raw W ρ H (asFl env r) D) : PostG K mg raw ρ H r D.nx := by
  cases r with
  | ok e S => exact h
  | exc c S => exact h.elim
  | err => exact h.elim
theorem sx_asg {tg e : Expr} {fe : DE} {g : DG} (he : EX X raw W e fe) (hg : GX X raw tg g) (hs : swapsWithSole [tg] e pos.line X.env = pure false := by rfl) (hw : swappedStores [tg] e X.env = pure none := by rfl)
    (h1 : (assignEach [tg] X.env).map (·.2) = [assign tg X.env] := by rfl) : SX X raw W (.Assign [tg] e pos) (dAsg fe g) :=
  PS.imp (ps_asg he hg hs hw h1) fun σ H D ⟨ρ, env, S, e, s, h⟩ => tG_thenS e s h fun d S1 v ρ1 H1 st e1 s1 r1 h1 => ⟨ρ1, env, S1, d, e1, s1, r1, post_asFl h1⟩
end

/-! ### while -/
def dWhileN (c : DT) (b : DS) : Nat → DS
  | 0 => fun _ _ => .err
  | n + 1 => fun env S => thenS (c env S) env fun k S1 => if k = true then (match b env S1 with
    | .nx e S2 => dWhileN c b n e S2
    | .ct e S2 => dWhileN c b n e S2
    | .bk e S2 => .nx e S2
    | r => r) else .nx env S1
section
variable {X : Cx} {raw : List (Nat × V)} {W : WX} {pos : Pos}
theorem sx_while (N : Nat) {c : Expr} {body : List Stmt} {t : DT} {f : DS} (hp : PassesOwn (model X.prog X.w) X.A X.env X.xe) (hc : TX X raw W c t) (hb : BX X raw W body f) : SX X raw W (.While c body [] pos) (dWhileN t f N) :=
  PS.imp (ps_while hp hc hb) fun σ H D ⟨ρ, env, S, e, s, h⟩ => by
    refine ⟨fun m σ H => ∃ ρ env S, ER X.K raw ρ H env σ ∧ SR X.K X.mg ρ H S ∧ PostS X.K X.mg raw W ρ H (dWhileN t f m env S) D, ⟨N, ρ, env, S, e, s, h⟩, ?_⟩
    rintro m σ H ⟨ρ, env, S, e, s, h⟩
    cases m with
    | zero => exact h.elim
    | succ m =>
      refine tG_thenS e s h fun k S1 v ρ1 H1 st e1 s1 r1 h1 => ?_
      cases r1
      by_cases hk : k = true
      · rw [if_pos hk] at h1 ⊢
        refine ⟨fun σ' H' => ∃ ρ env S, ER X.K raw ρ H' env σ' ∧ SR X.K X.mg ρ H' S ∧ PostS X.K X.mg raw W ρ H' (dWhileN t f m env S) D, fun σ' H' q => ⟨m, Nat.lt_succ_self _, q⟩, ρ1, env, S1, e1, s1, ?_⟩
        cases q : f env S1 with
        | nx e2 S2 => rw [q] at h1; exact fun σ' ρ' H' st sr er => ⟨ρ', e2, S2, er, sr, PostS.later h1 st⟩
        | ct e2 S2 => rw [q] at h1; exact fun σ' ρ' H' st sr er => ⟨ρ', e2, S2, er, sr, PostS.later h1 st⟩
        | bk e2 S2 => rw [q] at h1; exact h1
        | rt d S2 => rw [q] at h1; exact h1
        | exc c e2 S2 => rw [q] at h1; exact h1
        | err => rw [q] at h1; exact h1
      · rw [if_neg hk] at h1 ⊢
        exact h1 σ ρ1 H1 (Stp.refl _ _) s1 e1
end

/-! ### what is gone through -/
/-- the items, and an object of the store that has to stay -/
structure ItD where
  items : List D
  guard : List (Nat × O)
def Grd (g : List (Nat × O)) (S : Sto) : Prop := ∀ p ∈ g, S[p.1]? = some p.2
instance (g : List (Nat × O)) (S : Sto) : Decidable (Grd g S) := by unfold Grd; infer_instance
structure Wk (K : Fg) (mg : Mg) (J : It) (ρ0 : List Addr) (H0 : Hp) (it : ItD) : Prop where
  go : ∀ i H ρ S, i < it.items.length → Stp ρ0 H0 ρ H → SR K mg ρ H S → Grd it.guard S → J.go i H
  stop : ∀ i H ρ S, it.items.length ≤ i → Stp ρ0 H0 ρ H → SR K mg ρ H S → Grd it.guard S → J.stop i H
  yld : ∀ i H ρ S x H', i < it.items.length → Stp ρ0 H0 ρ H → SR K mg ρ H S → Grd it.guard S → J.yld i H x H' → ∃ d, it.items[i]? = some d ∧ Rep K ρ H' x d ∧ Stp ρ H ρ H' ∧ SR K mg ρ H' S
abbrev DI := Env → Sto → R ItD
def PostI (K : Fg) (mg : Mg) (W : WX) (ρ : List Addr) (H : Hp) (σ : L2.St) (r : R ItD) (Q : It → Hp → Prop) : Prop :=
  match r with
  | .ok it S' => ∀ J ρ' H', Stp ρ H ρ' H' → SR K mg ρ' H' S' → Wk K mg J ρ' H' it → Q J H'
  | .exc c S' => ∀ C ρ' H', mg c = some (.ref C) → Stp ρ H ρ' H' → SR K mg ρ' H' S' → W (.ref C) none σ H'
  | .err => False
def tI (K : Fg) (mg : Mg) (raw : List (Nat × V)) (W : WX) (f : DI) : TI := fun σ H R => ∃ ρ env S, ER K raw ρ H env σ ∧ SR K mg ρ H S ∧ PostI K mg W ρ H σ (f env S) R
theorem PI.imp {X : Cx} {tg e : Expr} {t t' : TI} (h : PI X tg e t) (q : ∀ σ H Q, t' σ H Q → t σ H Q) : PI X tg e t' := ⟨fun pins s σ H Q I z => h.run pins s σ H Q I (q σ H Q z)⟩
abbrev IX (X : Cx) (raw : List (Nat × V)) (W : WX) (tg e : Expr) (f : DI) : Prop := PI X tg e (tI X.K X.mg raw W f)
theorem PostI.later {K : Fg} {mg : Mg} {W : WX} {ρ ρ1 : List Addr} {H H1 : Hp} {σ : L2.St} {r : R ItD} {Q : It → Hp → Prop} (h : PostI K mg W ρ H σ r Q) (s : Stp ρ H ρ1 H1) : PostI K mg W ρ1 H1 σ r Q := by
  cases r with
  | ok d S' => exact fun v ρ' H' s' => h v ρ' H' (s.trans s')
  | exc c S' => exact fun C ρ' H' g s' => h C ρ' H' g (s.trans s')
  | err => exact h
theorem tG_bindI {α β : Type} {K : Fg} {mg : Mg} {raw : List (Nat × V)} {W : WX} {ρ : List Addr} {H : Hp} {σ : L2.St} {rep : List Addr → Hp → β → α → Prop} {f : Env → Sto → R α} {k : α → Sto → R ItD} {Q' : β → Hp → Prop} {Q : It → Hp → Prop} {env : Env} {S : Sto} (e : ER K raw ρ H env σ) (s : SR K mg ρ H S)
    (h : PostI K mg W ρ H σ ((f env S).bind k) Q)
    (hk : ∀ d S1 v ρ1 H1, Stp ρ H ρ1 H1 → ER K raw ρ1 H1 env σ → SR K mg ρ1 H1 S1 → rep ρ1 H1 v d → PostI K mg W ρ1 H1 σ (k d S1) Q → Q' v H1) : tG K mg raw W rep f σ H Q' := by
  refine ⟨ρ, env, S, e, s, ?_⟩
  cases hf : f env S with
  | ok d S1 =>
    rw [hf] at h
    exact fun v ρ1 H1 st sr r => hk d S1 v ρ1 H1 st (e.mono st) sr r (PostI.later h st)
  | exc c S1 => rw [hf] at h; exact h
  | err => rw [hf] at h; exact h
section
variable {K : Fg} {mg : Mg} {ρ : List Addr} {H : Hp}
theorem wk_tup {a : Addr} {xs : List V} {ds : List D} (hq : SqT K H a xs) (l : RepL K ρ H xs ds) : Wk K mg (Itt K a) ρ H ⟨ds, []⟩ where
  go := fun i H' ρ' S hi st s g => ⟨xs, xs[i]'(by rw [l.length]; exact hi), st.sqT hq, by simp⟩
  stop := fun i H' ρ' S hi st s g => ⟨xs, st.sqT hq, by rw [l.length]; exact hi⟩
  yld := fun i H' ρ' S x H2 hi st s g ⟨e, y⟩ => by
    subst e
    have hx := y xs (st.sqT hq)
    obtain ⟨v, q, r⟩ := l.get (List.getElem?_eq_getElem hi)
    rw [hx] at q; cases q
    exact ⟨_, List.getElem?_eq_getElem hi, r.mono st, Stp.refl _ _, s⟩
theorem wk_fz {a : Addr} {xs : List V} {ds : List D} (hq : FzL K H a xs) (l : RepL K ρ H xs ds) : Wk K mg (Itl K a) ρ H ⟨ds, []⟩ where
  go := fun i H' ρ' S hi st s g => ⟨xs, xs[i]'(by rw [l.length]; exact hi), (st.fz hq).sq, by simp⟩
  stop := fun i H' ρ' S hi st s g => ⟨xs, (st.fz hq).sq, by rw [l.length]; exact hi⟩
  yld := fun i H' ρ' S x H2 hi st s g ⟨e, y⟩ => by
    subst e
    have hx := y xs (st.fz hq).sq
    obtain ⟨v, q, r⟩ := l.get (List.getElem?_eq_getElem hi)
    rw [hx] at q; cases q
    exact ⟨_, List.getElem?_eq_getElem hi, r.mono st, Stp.refl _ _, s⟩
theorem wk_lst {a : Addr} {n : Nat} {ds : List D} (hn : ρ[n]? = some a) : Wk K mg (Itl K a) ρ H ⟨ds, [(n, .lst ds)]⟩ where
  go := fun i H' ρ' S hi st s g => by
    obtain ⟨xs, hx, l⟩ := s.ob _ _ _ (g (n, _) List.mem_cons_self) (st.at hn)
    exact ⟨xs, xs[i]'(by rw [l.length]; exact hi), .of hx, by simp⟩
  stop := fun i H' ρ' S hi st s g => by
    obtain ⟨xs, hx, l⟩ := s.ob _ _ _ (g (n, _) List.mem_cons_self) (st.at hn)
    exact ⟨xs, .of hx, by rw [l.length]; exact hi⟩
  yld := fun i H' ρ' S x H2 hi st s g ⟨e, y⟩ => by
    subst e
    obtain ⟨xs, hx, l⟩ := s.ob _ _ _ (g (n, _) List.mem_cons_self) (st.at hn)
    have hx' := y xs (.of hx)
    obtain ⟨v, q, r⟩ := l.get (List.getElem?_eq_getElem hi)
    rw [hx'] at q; cases q
    exact ⟨_, List.getElem?_eq_getElem hi, r, Stp.refl _ _, s⟩
end
/-- a list or a tuple, gone through -/
def itOf (x : D) (S : Sto) : R ItD := match x with
  | .scr ds => .ok ⟨ds, []⟩ S
  | .ref n => match S[n]? with
    | some (.lst ds) => .ok ⟨ds, [(n, .lst ds)]⟩ S
    | _ => .err
  | _ => .err
def itOfT (x : D) (S : Sto) : R ItD := match x with
  | .tup ds => .ok ⟨ds, []⟩ S
  | _ => .err
def dIt (f : DE) : DI := fun env S => (f env S).bind itOf
def dItT (f : DE) : DI := fun env S => (f env S).bind itOfT
def strs1 (z : Str) : List D := z.cps.toList.map fun c => .str ⟨#[c]⟩
def dItS (f : DE) : DI := fun env S => (f env S).bind fun x S1 => match x with
  | .str z => .ok ⟨strs1 z, []⟩ S1
  | _ => .err
def rangeD (lo : Int) (n : Nat) : List D := (List.range n).map fun i => .int (lo + (i : Nat))
def dRange1 (fs : DA) : DI := fun env S => (fs env S).bind fun xs S1 => match xs with
  | [.int j] => if -(2 ^ 62) ≤ j ∧ j < 2 ^ 62 then .ok ⟨rangeD 0 j.toNat, []⟩ S1 else .err
  | _ => .err
def dRange2 (fs : DA) : DI := fun env S => (fs env S).bind fun xs S1 => match xs with
  | [.int i, .int j] => if -(2 ^ 62) ≤ i ∧ i < 2 ^ 62 ∧ -(2 ^ 62) ≤ j ∧ j < 2 ^ 62 then .ok ⟨rangeD i (j - i).toNat, []⟩ S1 else .err
  | _ => .err
section
variable {X : Cx} {raw : List (Nat × V)} {W : WX} {pos p : Pos} {tg e a b : Expr} {f : DE} {fs : DA}
theorem ix_list (he : EX X raw W e f) : IX X raw W tg e (dIt f) :=
  PI.imp (pi_list he) fun σ H Q ⟨ρ, env, S, e, s, h⟩ => tG_bindI e s h fun d S1 v ρ1 H1 st e1 s1 r1 h1 => by
    unfold itOf at h1
    split at h1
    · cases r1 with
      | scr hq l => exact ⟨_, rfl, ⟨_, hq.sq⟩, h1 _ ρ1 H1 (Stp.refl _ _) s1 (wk_fz hq l)⟩
    · cases r1 with
      | ref hn =>
        split at h1
        · rename_i ds hS
          obtain ⟨xs, hx, l⟩ := s1.ob _ _ _ hS hn
          exact ⟨_, rfl, ⟨_, .of hx⟩, h1 _ ρ1 H1 (Stp.refl _ _) s1 (wk_lst hn)⟩
        · exact h1.elim
    · exact h1.elim
theorem ix_tuple (he : EX X raw W e f) : IX X raw W tg e (dItT f) :=
  PI.imp (pi_tup he) fun σ H Q ⟨ρ, env, S, e, s, h⟩ => tG_bindI e s h fun d S1 v ρ1 H1 st e1 s1 r1 h1 => by
    unfold itOfT at h1
    split at h1
    · cases r1 with
      | tup hq l => exact ⟨_, rfl, ⟨_, hq⟩, h1 _ ρ1 H1 (Stp.refl _ _) s1 (wk_tup hq l)⟩
    · exact h1.elim
theorem ix_text (he : EX X raw W e f) : IX X raw W tg e (dItS f) :=
  PI.imp (pi_str he) fun σ H Q ⟨ρ, env, S, e, s, h⟩ => tG_bindI e s h fun d S1 v ρ1 H1 st e1 s1 r1 h1 => by
    split at h1
    · rename_i z
      cases r1
      have hl : (strs1 z).length = z.cps.size := by simp [strs1]
      refine ⟨z, rfl, h1 _ ρ1 H1 (Stp.refl _ _) s1 ⟨fun i H ρ S hi _ _ _ => (by rw [← hl]; exact hi : i < z.cps.size), fun i H ρ S hi _ _ _ => (by rw [← hl]; exact hi : z.cps.size ≤ i), fun i H ρ S x H' hi st s g y => ?_⟩⟩
      obtain ⟨e, c, hc, rfl⟩ := y
      subst e
      refine ⟨.str ⟨#[c]⟩, ?_, .str _, Stp.refl _ _, s⟩
      simp only [strs1, List.getElem?_map, Array.getElem?_toList, hc, Option.map_some]
    · exact h1.elim
theorem wk_range {K : Fg} {mg : Mg} {ρ : List Addr} {H : Hp} {lo : Int} {n : Nat} : Wk K mg (Itr lo n) ρ H ⟨rangeD lo n, []⟩ where
  go := fun i H' ρ' S hi st s g => (by simpa [rangeD] using hi : i < n)
  stop := fun i H' ρ' S hi st s g => (by simpa [rangeD] using hi : n ≤ i)
  yld := fun i H' ρ' S x H2 hi st s g ⟨e, y⟩ => by
    subst e; subst y
    have hi' : i < n := by simpa [rangeD] using hi
    refine ⟨.int (lo + i), ?_, .int _, Stp.refl _ _, s⟩
    simp [rangeD, hi']
theorem ix_range1 (hg : Gl X "range") (hm : X.mg "range" = none) (ha : AX X raw W [a] fs) (hs : starEach [a] X.env = [(false, eval a X.env)] := by rfl) : IX X raw W tg (.Call (.Name "range" p) [a] [] pos) (dRange1 fs) :=
  PI.imp (pi_range1 hg hm ha hs) fun σ H Q ⟨ρ, env, S, e, s, h⟩ => tG_bindI e s h fun d S1 v ρ1 H1 st e1 s1 r1 h1 => by
    split at h1
    · rename_i j
      cases r1 with
      | cons r t =>
        cases t; cases r
        split at h1
        · rename_i hj
          exact ⟨j, rfl, hj.1, hj.2, h1 _ ρ1 H1 (Stp.refl _ _) s1 wk_range⟩
        · exact h1.elim
    · exact h1.elim
theorem ix_range2 (hg : Gl X "range") (hm : X.mg "range" = none) (ha : AX X raw W [a, b] fs) (hs : starEach [a, b] X.env = [(false, eval a X.env), (false, eval b X.env)] := by rfl) (hs2 : starEach [b] X.env = [(false, eval b X.env)] := by rfl) :
    IX X raw W tg (.Call (.Name "range" p) [a, b] [] pos) (dRange2 fs) :=
  PI.imp (pi_range2 hg hm ha hs hs2) fun σ H Q ⟨ρ, env, S, e, s, h⟩ => tG_bindI e s h fun d S1 v ρ1 H1 st e1 s1 r1 h1 => by
    split at h1
    · rename_i i j
      cases r1 with
      | cons r t =>
        cases t with
        | cons r2 t =>
          cases t; cases r; cases r2
          split at h1
          · rename_i hj
            exact ⟨i, j, rfl, hj, h1 _ ρ1 H1 (Stp.refl _ _) s1 wk_range⟩
          · exact h1.elim
    · exact h1.elim
end

/-! ### for -/
def forL (g : List (Nat × O)) (t : DG) (b : DS) : List D → DS
  | [] => fun env S => if Grd g S then .nx env S else .err
  | d :: r => fun env S => if Grd g S then (match t d env S with
    | .ok e1 S1 => match b e1 S1 with
      | .nx e2 S2 => forL g t b r e2 S2
      | .ct e2 S2 => forL g t b r e2 S2
      | .bk e2 S2 => .nx e2 S2
      | q => q
    | _ => .err) else .err
def dFor (fi : DI) (t : DG) (b : DS) : DS := fun env S => thenS (fi env S) env fun it S1 => forL it.guard t b it.items env S1
section
variable {X : Cx} {raw : List (Nat × V)} {W : WX} {pos : Pos}
theorem sx_for {tg iter : Expr} {body : List Stmt} {fi : DI} {t : DG} {f : DS} (hp : PassesOwn (model X.prog X.w) X.A X.env X.xe) (hc : X.calm = true) (hi : IX X raw W tg iter fi) (hg : GX X raw tg t) (hb : BX X raw W body f)
    (hs : ∀ x, foldedSetIterable iter X.env x = pure x := by intro _; rfl) : SX X raw W (.For tg iter body [] pos) (dFor fi t f) :=
  PS.imp (ps_for hp hc hi hg hb hs) fun σ H D ⟨ρ, env, S, e, s, h⟩ => by
    refine ⟨ρ, env, S, e, s, ?_⟩
    unfold dFor at h
    cases q : fi env S with
    | err => rw [q] at h; exact h
    | exc c S1 =>
      rw [q] at h
      exact fun C ρ' H' gc st sr => h C σ ρ' H' gc st sr (e.mono st)
    | ok it S1 =>
      rw [q] at h
      intro J ρ1 H1 st1 s1 wk
      have h1 := PostS.later h st1
      simp only [thenS_ok] at h1
      refine ⟨fun i m σ H => m = it.items.length - i ∧ i ≤ it.items.length ∧ ∃ ρ env S, ER X.K raw ρ H env σ ∧ SR X.K X.mg ρ H S ∧ Stp ρ1 H1 ρ H ∧ PostS X.K X.mg raw W ρ H (forL it.guard t f (it.items.drop i) env S) D,
        ⟨_, rfl, Nat.zero_le _, ρ1, env, S1, e.mono st1, s1, Stp.refl _ _, by simpa using h1⟩, ?_⟩
      rintro i m σ2 H2 ⟨rfl, hi, ρ2, env2, S2, e2, s2, st2, h2⟩
      by_cases hlt : i < it.items.length
      · rw [List.drop_eq_getElem_cons hlt] at h2
        unfold forL at h2
        by_cases hg : Grd it.guard S2
        · rw [if_pos hg] at h2
          refine .inr ⟨wk.go i H2 ρ2 S2 hlt st2 s2 hg, fun σ' H' => ∃ ρ env S, ER X.K raw ρ H' env σ' ∧ SR X.K X.mg ρ H' S ∧ Stp ρ1 H1 ρ H' ∧ PostS X.K X.mg raw W ρ H' (forL it.guard t f (it.items.drop (i + 1)) env S) D,
            fun σ' H' w => ⟨it.items.length - (i + 1), by omega, rfl, hlt, w⟩, fun x H' y => ?_⟩
          obtain ⟨d, ed, r3, st3, s3⟩ := wk.yld i H2 ρ2 S2 x H' hlt st2 s2 hg y
          have ed' : it.items[i] = d := by rw [List.getElem?_eq_getElem hlt] at ed; exact Option.some.inj ed
          rw [ed'] at h2
          refine ⟨ρ2, env2, S2, d, e2.mono st3, s3, r3, ?_⟩
          cases q2 : t d env2 S2 with
          | ok e4 S4 =>
            rw [q2] at h2
            intro σ4 ρ4 H4 st4 s4 er4
            have st14 := (st2.trans st3).trans st4
            refine ⟨ρ4, e4, S4, er4, s4, ?_⟩
            have h4 := PostS.later (PostS.later h2 st3) st4
            dsimp only at h4
            cases q3 : f e4 S4 with
            | nx e5 S5 => rw [q3] at h4; exact fun σ' ρ' H' st sr er => ⟨ρ', e5, S5, er, sr, st14.trans st, PostS.later h4 st⟩
            | ct e5 S5 => rw [q3] at h4; exact fun σ' ρ' H' st sr er => ⟨ρ', e5, S5, er, sr, st14.trans st, PostS.later h4 st⟩
            | bk e5 S5 => rw [q3] at h4; exact h4
            | rt d S5 => rw [q3] at h4; exact h4
            | exc c e5 S5 => rw [q3] at h4; exact h4
            | err => rw [q3] at h4; exact h4
          | exc c S4 => rw [q2] at h2; exact h2.elim
          | err => rw [q2] at h2; exact h2.elim
        · rw [if_neg hg] at h2; exact h2.elim
      · have hd : it.items.drop i = [] := List.drop_eq_nil_of_le (Nat.le_of_not_lt hlt)
        rw [hd] at h2
        unfold forL at h2
        by_cases hg : Grd it.guard S2
        · rw [if_pos hg] at h2
          exact .inl ⟨wk.stop i H2 ρ2 S2 (Nat.le_of_not_lt hlt) st2 s2 hg, h2 σ2 ρ2 H2 (Stp.refl _ _) s2 e2⟩
        · rw [if_neg hg] at h2; exact h2.elim
end
end RL

namespace RL
open PySem PySem.Spec PyProof.Rows L2

/-! ### comprehensions -/
def wipeE (env : Env) : List Nat → Env
  | [] => env
  | v :: vs => (wipeE env vs).set v none
theorem wipeE_length (env : Env) : ∀ vs, (wipeE env vs).length = env.length
  | [] => rfl
  | v :: vs => by unfold wipeE; rw [List.length_set, wipeE_length]
theorem ER.wipe {K : Fg} {raw : List (Nat × V)} {ρ : List Addr} {H : Hp} {env : Env} {σ : L2.St} (e : ER K raw ρ H env σ) : ∀ vs, ER K [] ρ H (wipeE env vs) (L2.wipe σ vs)
  | [] => ⟨e.len, e.at_, fun _ h => nomatch h⟩
  | v :: vs => by
    have ih := ER.wipe e vs
    unfold wipeE L2.wipe
    refine ⟨by rw [List.length_set, List.length_set]; exact ih.len, fun i d h => ?_, fun _ h => nomatch h⟩
    by_cases hi : i = v
    · subst hi
      by_cases hl : i < (wipeE env vs).length
      · rw [List.getElem?_set_self hl] at h; cases h
      · rw [List.getElem?_eq_none (by simpa using hl)] at h; cases h
    · rw [List.getElem?_set_ne (Ne.symm hi)] at h ⊢
      exact ih.at_ i d h
theorem wipe_get (σ : L2.St) : ∀ (vs : List Nat) (j : Nat), (L2.wipe σ vs)[j]? = if j ∈ vs then (if j < σ.length then some none else none) else σ[j]?
  | [], j => by simp [L2.wipe]
  | v :: vs, j => by
    unfold L2.wipe
    by_cases hj : j = v
    · subst hj
      rw [if_pos (List.mem_cons_self ..)]
      by_cases hl : j < σ.length
      · rw [List.getElem?_set_self (by rw [wipe_length]; exact hl), if_pos hl]
      · rw [if_neg hl, List.getElem?_eq_none (by rw [List.length_set, wipe_length]; omega)]
    · rw [List.getElem?_set_ne (Ne.symm hj), wipe_get σ vs j]
      simp [hj]
/-- alike but for the slots vs -/
def AlikeBut (vs : List Nat) (σ τ : L2.St) : Prop := σ.length = τ.length ∧ ∀ j, j ∉ vs → σ[j]? = τ[j]?
theorem wipe_alike {vs : List Nat} {σ τ : L2.St} (h : AlikeBut vs σ τ) : L2.wipe σ vs = L2.wipe τ vs := by
  refine List.ext_getElem? fun j => ?_
  rw [wipe_get, wipe_get, h.1]
  by_cases hj : j ∈ vs
  · rw [if_pos hj, if_pos hj]
  · rw [if_neg hj, if_neg hj, h.2 j hj]
theorem alike_wipe (vs : List Nat) (σ : L2.St) : AlikeBut vs (L2.wipe σ vs) σ := ⟨wipe_length _ _, fun j hj => by rw [wipe_get, if_neg hj]⟩
theorem AlikeBut.set {vs : List Nat} {σ τ : L2.St} (h : AlikeBut vs σ τ) {i : Nat} (hi : i ∈ vs) (v : Option V) : AlikeBut vs (σ.set i v) τ := ⟨by rw [List.length_set]; exact h.1, fun j hj => by
  rw [List.getElem?_set_ne (fun e => hj (by rw [← e]; exact hi))]; exact h.2 j hj⟩
/-- a comprehension's target: one name, or some -/
abbrev CT := D → Env → Option Env
def cName (i : Nat) : CT := fun d env => some (env.set i (some d))
def setAll : List Nat → List D → Env → Option Env
  | [], [], env => some env
  | i :: is, d :: ds, env => setAll is ds (env.set i (some d))
  | _, _, _ => none
def cTup (is : List Nat) : CT := fun d env => match d with
  | .tup ds => setAll is ds env
  | _ => none
def gSlots : List Nat → TGs
  | [] => gNil
  | i :: is => gCons (gName i) (gSlots is)
def gTarget (K : Fg) (c : Nat ⊕ List Nat) : TG := match c with
  | .inl i => gName i
  | .inr is => gTup K is.length (gSlots is)
def cTarget (c : Nat ⊕ List Nat) : CT := match c with
  | .inl i => cName i
  | .inr is => cTup is
def slotsOf : Nat ⊕ List Nat → List Nat
  | .inl i => [i]
  | .inr is => is
theorem slots_run {K : Fg} {ρ : List Addr} {H : Hp} {vs : List Nat} {τ : L2.St} : ∀ {is : List Nat} {xs : List V} {ds : List D} {env e1 : Env} {σ : L2.St} {Q : L2.St → Hp → Prop}, (∀ i ∈ is, i ∈ vs) → RepL K ρ H xs ds → ER K [] ρ H env σ → AlikeBut vs σ τ →
    setAll is ds env = some e1 → (∀ σ', ER K [] ρ H e1 σ' → AlikeBut vs σ' τ → Q σ' H) → gSlots is xs σ H Q
  | [], _, _, env, e1, σ, Q, _, .nil, e, a, h, q => by cases h; exact ⟨rfl, q σ e a⟩
  | [], _, _, env, e1, σ, Q, _, .cons _ _, e, a, h, q => by cases h
  | i :: is, _, _, env, e1, σ, Q, _, .nil, e, a, h, q => by cases h
  | i :: is, _, _, env, e1, σ, Q, hv, .cons r rr, e, a, h, q => by
    refine ⟨_, _, rfl, ?_⟩
    exact slots_run (fun j hj => hv j (List.mem_cons_of_mem _ hj)) rr (e.set r noraw) (a.set (hv i (List.mem_cons_self ..)) _) h q
theorem target_run {K : Fg} {ρ : List Addr} {H : Hp} {vs : List Nat} {τ : L2.St} {c : Nat ⊕ List Nat} {x : V} {d : D} {env e1 : Env} {σ : L2.St} {Q : L2.St → Hp → Prop} (hv : ∀ i ∈ slotsOf c, i ∈ vs) (r : Rep K ρ H x d) (e : ER K [] ρ H env σ) (a : AlikeBut vs σ τ)
    (h : cTarget c d env = some e1) (q : ∀ σ', ER K [] ρ H e1 σ' → AlikeBut vs σ' τ → Q σ' H) : gTarget K c x σ H Q := by
  cases c with
  | inl i =>
    cases h
    exact q _ (e.set r noraw) (a.set (hv i (List.mem_cons_self ..)) _)
  | inr is =>
    unfold cTarget cTup at h
    dsimp only at h
    split at h
    · rename_i ds
      cases r with
      | tup hq l =>
        have hl : ∀ {is : List Nat} {ds : List D} {env : Env}, setAll is ds env = some e1 → ds.length = is.length := by
          intro is
          induction is with
          | nil => intro ds env h; cases ds with | nil => rfl | cons _ _ => cases h
          | cons i is ih =>
            intro ds env h
            cases ds with
            | nil => cases h
            | cons d ds => rw [List.length_cons, List.length_cons, ih h]
        exact ⟨_, _, rfl, hq, by rw [l.length]; exact hl h, slots_run hv l e a h q⟩
    · cases h
def lcL (g : List (Nat × O)) (c : CT) (t : DT) (f : DE) (env : Env) : List D → Sto → R (List D)
  | [], S => if Grd g S then .ok [] S else .err
  | d :: r, S => if Grd g S then (match c d env with
    | some e1 => (noEx (t e1 S)).bind fun k S1 => if k = true then (noEx (f e1 S1)).bind fun y S2 => (lcL g c t f env r S2).bind fun ys S3 => .ok (y :: ys) S3 else lcL g c t f env r S1
    | none => .err) else .err
def dLc (c : Nat ⊕ List Nat) (vs : List Nat) (fi : DI) (t : DT) (f : DE) : DE := fun env S => (fi env S).bind fun it S1 => if it.items.length ≤ lim then
  (lcL it.guard (cTarget c) t f (wipeE env vs) it.items S1).bind fun ds S2 => .ok (.ref S2.length) (S2 ++ [.lst ds]) else .err
def dYes : DT := fun _ S => .ok true S
theorem noEx_bind_ok {α β : Type} {x : R α} {k : α → Sto → R β} {P : R β → Prop} (h : P ((noEx x).bind k)) (herr : ¬ P .err) : ∃ a S, x = .ok a S ∧ P (k a S) := by
  cases x with
  | ok a S => exact ⟨a, S, rfl, h⟩
  | exc c S => exact (herr h).elim
  | err => exact (herr h).elim
/-- a tracked list that the store does not name yet is taken in -/
theorem SR.adopt {K : Fg} {mg : Mg} {ρ : List Addr} {H : Hp} {S : Sto} {p : Addr} {o : O} (s : SR K mg ρ H S) (hp : p ∉ ρ) (st : Stp ρ H (ρ ++ [p]) H) (r : ORep K mg (ρ ++ [p]) H p o) : SR K mg (ρ ++ [p]) H (S ++ [o]) where
  len := by simp [s.len]
  nd := by
    refine List.nodup_append.mpr ⟨s.nd, by simp, fun a ha b hb => ?_⟩
    obtain rfl := List.mem_singleton.mp hb
    exact fun z => hp (z ▸ ha)
  ob := fun n o' a h1 h2 => by
    by_cases hn : n < S.length
    · rw [List.getElem?_append_left hn] at h1
      rw [List.getElem?_append_left (by rw [s.len]; exact hn)] at h2
      exact (s.ob n o' a h1 h2).mono st rfl
    · obtain ⟨q, _⟩ := List.getElem?_eq_some_iff.mp h1
      have e : n = S.length := by simp at q; omega
      subst e
      rw [List.getElem?_append_right (Nat.le_refl _)] at h1
      rw [← s.len, List.getElem?_append_right (Nat.le_refl _)] at h2
      simp at h1 h2
      subst h1; subst h2
      exact r
/-- growing the list of names alone -/
theorem Rep.more {K : Fg} {ρ : List Addr} {H : Hp} {p : Addr} {xs : List V} {ds : List D} (h : RepL K ρ H xs ds) : RepL K (ρ ++ [p]) H xs ds := by
  have go : ∀ {d : D} {v : V}, Rep K ρ H v d → Rep K (ρ ++ [p]) H v d := by
    intro d v r
    induction r using Rep.rec (motive_2 := fun xs ds _ => RepL K (ρ ++ [p]) H xs ds) with
    | non => exact .non
    | bl b => exact .bl b
    | int b => exact .int b
    | str b => exact .str b
    | tup h _ ih => exact .tup h ih
    | scr h _ ih => exact .scr h ih
    | ref h =>
      obtain ⟨q, _⟩ := List.getElem?_eq_some_iff.mp h
      exact .ref (by rw [List.getElem?_append_left q]; exact h)
    | nil => exact .nil
    | cons _ _ ih1 ih2 => exact .cons ih1 ih2
  induction ds generalizing xs with
  | nil => cases h; exact .nil
  | cons d ds ih =>
    cases h with
    | cons r t => exact .cons (go r) (ih t)
theorem Rep.more1 {K : Fg} {ρ : List Addr} {H : Hp} {p : Addr} {x : V} {d : D} (h : Rep K ρ H x d) : Rep K (ρ ++ [p]) H x d := by
  have q := Rep.more (p := p) (.cons h .nil : RepL K ρ H [x] [d])
  cases q with
  | cons r _ => exact r
theorem RepKV.more {K : Fg} {ρ : List Addr} {H : Hp} {p : Addr} : ∀ {ks : List (Key × V)} {kvs : List (D × D)}, RepKV K ρ H ks kvs → RepKV K (ρ ++ [p]) H ks kvs
  | _, _, .nil => .nil
  | _, _, .cons r t => .cons (Rep.more1 r) (RepKV.more t)
theorem SR.adopt' {K : Fg} {mg : Mg} {ρ : List Addr} {H : Hp} {S : Sto} {p : Addr} {o : O} (s : SR K mg ρ H S) (hp : p ∉ ρ) (r : ORep K mg (ρ ++ [p]) H p o) : SR K mg (ρ ++ [p]) H (S ++ [o]) where
  len := by simp [s.len]
  nd := by
    refine List.nodup_append.mpr ⟨s.nd, by simp, fun a ha b hb => ?_⟩
    obtain rfl := List.mem_singleton.mp hb
    exact fun z => hp (z ▸ ha)
  ob := fun n o' a h1 h2 => by
    by_cases hn : n < S.length
    · rw [List.getElem?_append_left hn] at h1
      rw [List.getElem?_append_left (by rw [s.len]; exact hn)] at h2
      have q := s.ob n o' a h1 h2
      cases o' with
      | lst ds => obtain ⟨xs, e, l⟩ := q; exact ⟨xs, e, Rep.more l⟩
      | dict ds => obtain ⟨xs, e, l⟩ := q; exact ⟨xs, e, RepKV.more l⟩
      | ins c fs => obtain ⟨C, dx, gs, g, q, n, l⟩ := q; exact ⟨C, dx, gs, g, q, n, Rep.more l⟩
      | fd ds => obtain ⟨xs, ob, e, l⟩ := q; exact ⟨xs, ob, e, RepKV.more l⟩
    · obtain ⟨q, _⟩ := List.getElem?_eq_some_iff.mp h1
      have e : n = S.length := by simp at q; omega
      subst e
      rw [List.getElem?_append_right (Nat.le_refl _)] at h1
      rw [← s.len, List.getElem?_append_right (Nat.le_refl _)] at h2
      simp at h1 h2
      subst h1; subst h2
      exact r
theorem mono_at {K : Fg} {ρ ρ1 : List Addr} {H H1 : Hp} (s : Stp ρ H ρ1 H1) {xs : List V} {ds : List D} (h : RepL K ρ H xs ds) : RepL K ρ1 H1 xs ds := h.mono s
section
variable {X : Cx} {raw : List (Nat × V)} {W : WX} {pos : Pos}
theorem rep_off {K : Fg} {ρ : List Addr} {H : Hp} {D : Addr} {o o' : HO} (hD : H D = some o) (ht : ∀ xs, o ≠ .tup xs) (hf : ∀ ob u, o ≠ .frz ob u) : Stp ρ (fun b => if b = D then none else H b) ρ (upd H D o') := by
  refine ⟨⟨[], by simp⟩, fun a ha => .inl ha, fun a u _ e => ?_, fun a u v e => ?_, fun a xs e => ?_⟩
  all_goals
    by_cases h : a = D
    · rw [if_pos h] at e; cases e
    · rw [if_neg h] at e; rw [upd_ne h]; exact e
theorem rep_hide {K : Fg} {ρ : List Addr} {H : Hp} {D : Addr} {o : HO} (hD : H D = some o) (ht : ∀ xs, o ≠ .tup xs) (hf : ∀ ob u, o ≠ .frz ob u) : ∀ {d : RL.D} {v : V}, Rep K ρ H v d → Rep K ρ (fun b => if b = D then none else H b) v d := by
  intro d v r
  induction r using Rep.rec (motive_2 := fun xs ds _ => RepL K ρ (fun b => if b = D then none else H b) xs ds) with
  | non => exact .non
  | bl b => exact .bl b
  | int b => exact .int b
  | str b => exact .str b
  | tup h _ ih =>
    refine .tup ?_ ih
    rcases h with (h | ⟨ob, h⟩) | h
    · refine .inl (.inl ?_)
      show (if _ = D then none else H _) = _
      rw [if_neg (fun e => by subst e; rw [hD] at h; exact ht _ (Option.some.inj h))]; exact h
    · refine .inl (.inr ⟨ob, ?_⟩)
      show (if _ = D then none else H _) = _
      rw [if_neg (fun e => by subst e; rw [hD] at h; exact hf _ _ (Option.some.inj h))]; exact h
    · exact .inr h
  | scr h _ ih =>
    refine .scr ?_ ih
    rcases h with ⟨ob, h⟩ | h
    · refine .inl ⟨ob, ?_⟩
      show (if _ = D then none else H _) = _
      rw [if_neg (fun e => by subst e; rw [hD] at h; exact hf _ _ (Option.some.inj h))]; exact h
    · exact .inr h
  | ref h => exact .ref h
  | nil => exact .nil
  | cons _ _ ih1 ih2 => exact .cons ih1 ih2
theorem repL_hide {K : Fg} {ρ : List Addr} {H : Hp} {D : Addr} {o : HO} (hD : H D = some o) (ht : ∀ xs, o ≠ .tup xs) (hf : ∀ ob u, o ≠ .frz ob u) : ∀ {ds : List RL.D} {vs : List V}, RepL K ρ H vs ds → RepL K ρ (fun b => if b = D then none else H b) vs ds
  | [], _, .nil => .nil
  | _ :: _, _, .cons r t => .cons (rep_hide hD ht hf r) (repL_hide hD ht hf t)
/-- a list that the store does not name is written: all data stay -/
theorem repL_upd {K : Fg} {ρ : List Addr} {H : Hp} {D : Addr} {o o' : HO} (hD : H D = some o) (hw : Mut (some o)) {ds : List RL.D} {vs : List V} (r : RepL K ρ H vs ds) : RepL K ρ (upd H D o') vs ds :=
  (repL_hide hD (fun _ h => by subst h; exact hw) (fun _ _ h => by subst h; exact hw) r).mono (rep_off (K := K) hD (fun _ h => by subst h; exact hw) (fun _ _ h => by subst h; exact hw))
theorem rep_upd {K : Fg} {ρ : List Addr} {H : Hp} {D : Addr} {o o' : HO} (hD : H D = some o) (hw : Mut (some o)) {d : RL.D} {v : V} (r : Rep K ρ H v d) : Rep K ρ (upd H D o') v d :=
  (rep_hide hD (fun _ h => by subst h; exact hw) (fun _ _ h => by subst h; exact hw) r).mono (rep_off (K := K) hD (fun _ h => by subst h; exact hw) (fun _ _ h => by subst h; exact hw))
theorem repKV_upd {K : Fg} {ρ : List Addr} {H : Hp} {D : Addr} {o o' : HO} (hD : H D = some o) (hw : Mut (some o)) : ∀ {ks : List (Key × V)} {kvs : List (RL.D × RL.D)}, RepKV K ρ H ks kvs → RepKV K ρ (upd H D o') ks kvs
  | _, _, .nil => .nil
  | _, _, .cons r t => .cons (rep_upd hD hw r) (repKV_upd hD hw t)
theorem SR.updOff {K : Fg} {mg : Mg} {ρ : List Addr} {H : Hp} {S : Sto} {D : Addr} {o o' : HO} (s : SR K mg ρ H S) (hD : H D = some o) (hw : Mut (some o)) (hn : D ∉ ρ) : SR K mg ρ (upd H D o') S :=
  ⟨s.len, s.nd, fun n o a h1 h2 => by
    have ne : a ≠ D := fun e => hn (e ▸ List.mem_of_getElem? h2)
    have q := s.ob n o a h1 h2
    cases o with
    | lst ds => obtain ⟨xs, e, l⟩ := q; exact ⟨xs, (upd_ne ne).trans e, repL_upd hD hw l⟩
    | dict ds => obtain ⟨xs, e, l⟩ := q; exact ⟨xs, (upd_ne ne).trans e, repKV_upd hD hw l⟩
    | ins c fs => obtain ⟨C, dx, gs, g, q, n, l⟩ := q; exact ⟨C, dx, gs, g, (upd_ne ne).trans q, n, repL_upd hD hw l⟩
    | fd ds => obtain ⟨xs, ob, e, l⟩ := q; exact ⟨xs, ob, (upd_ne ne).trans e, repKV_upd hD hw l⟩⟩
theorem ER.updOff {K : Fg} {raw : List (Nat × V)} {ρ : List Addr} {H : Hp} {D : Addr} {o o' : HO} {env : Env} {σ : L2.St} (e : ER K raw ρ H env σ) (hD : H D = some o) (hw : Mut (some o)) : ER K raw ρ (upd H D o') env σ :=
  ⟨e.len, fun i d h => let ⟨v, q, r⟩ := e.at_ i d h; ⟨v, q, rep_upd hD hw r⟩, e.raw⟩
theorem Stp.updNew {ρ ρ1 : List Addr} {H H1 : Hp} (s : Stp ρ1 H1 ρ H) {D : Addr} {o' : HO} (h : H1 D = none) : Stp ρ1 H1 ρ (upd H D o') where
  ext := s.ext
  new := s.new
  old := fun a u ha e => by rw [upd_ne (ne_of_none e h)]; exact s.old a u ha e
  frz := fun a u v e => by rw [upd_ne (ne_of_none e h)]; exact s.frz a u v e
  tup := fun a u e => by rw [upd_ne (ne_of_none e h)]; exact s.tup a u e
theorem Stp.adopt {ρ ρ1 : List Addr} {H H1 : Hp} (s : Stp ρ1 H1 ρ H) {D : Addr} (h : H1 D = none) : Stp ρ1 H1 (ρ ++ [D]) H where
  ext := by
    obtain ⟨l, rfl⟩ := s.ext
    exact ⟨l ++ [D], by rw [List.append_assoc]⟩
  new := fun a ha => (List.mem_append.mp ha).elim (s.new a) fun z => by rw [List.mem_singleton.mp z]; exact .inr h
  old := s.old
  frz := s.frz
  tup := s.tup
theorem lc_run {K : Fg} {mg : Mg} {J : It} {ρ1 : List Addr} {H1 : Hp} {it : ItD} {c : Nat ⊕ List Nat} {vs : List Nat} {t : DT} {f : DE} {env : Env} {σ : L2.St} {S1 : Sto} {Q : VK} (hv : ∀ i ∈ slotsOf c, i ∈ vs) (wk : Wk K mg J ρ1 H1 it) (e : ER K raw ρ1 H1 env σ) (s1 : SR K mg ρ1 H1 S1) (hz : it.items.length ≤ lim)
    (h : Post K mg W ρ1 H1 σ (Rep K) ((lcL it.guard (cTarget c) t f (wipeE env vs) it.items S1).bind fun ds S2 => .ok (.ref S2.length) (S2 ++ [.lst ds])) Q) :
    ∀ D, H1 D = none → ∃ Wi : Nat → Nat → Hp → Prop, (∃ m, Wi 0 m (upd H1 D (.lst []))) ∧ ∀ i m H, Wi i m H →
      (J.stop i H ∧ Q (.ref D) H) ∨ (J.go i H ∧ ∃ Nx : Hp → Prop, (∀ H', Nx H' → ∃ m', m' < m ∧ Wi (i + 1) m' H') ∧ ∀ x H', J.yld i H x H' → gTarget K c x (L2.wipe σ vs) H' fun σ2 H2 => L2.wipe σ2 vs = L2.wipe σ vs ∧ tDT K mg [] W0 t σ2 H2 fun b H3 =>
        if b = true then tD K mg [] W0 f σ2 H3 fun y H4 => ∃ acc, H4 D = some (.lst acc) ∧ acc.length < sizeLine ∧ Nx (upd H4 D (.lst (acc ++ [y]))) else Nx H3) := by
  intro D hD
  let Wi : Nat → Nat → Hp → Prop := fun i m H => m = it.items.length - i ∧ i ≤ it.items.length ∧ ∃ ρ S acc accV, SR K mg ρ H S ∧ Stp ρ1 H1 ρ H ∧ D ∉ ρ ∧ H D = some (.lst accV) ∧ RepL K ρ H accV acc ∧ acc.length ≤ i ∧
    Post K mg W ρ1 H1 σ (Rep K) ((lcL it.guard (cTarget c) t f (wipeE env vs) (it.items.drop i) S).bind fun ds S2 => .ok (.ref S2.length) (S2 ++ [.lst (acc ++ ds)])) Q
  refine ⟨Wi, ⟨_, rfl, Nat.zero_le _, ρ1, S1, [], [], s1.val hD, stp_val hD, s1.fresh hD, upd_same, .nil, Nat.le_refl _, by simpa using h⟩, ?_⟩
  rintro i m H ⟨rfl, hi, ρ, S, acc, accV, s, st, hn, hd, l, hl, h⟩
  by_cases hlt : i < it.items.length
  · rw [List.drop_eq_getElem_cons hlt] at h
    unfold lcL at h
    by_cases hg : Grd it.guard S
    · rw [if_pos hg] at h
      refine .inr ⟨wk.go i H ρ S hlt st s hg, fun H' => Wi (i + 1) (it.items.length - (i + 1)) H', fun H' w => ⟨it.items.length - (i + 1), by omega, w⟩, fun x H' y => ?_⟩
      obtain ⟨d, ed, r3, st3, s3⟩ := wk.yld i H ρ S x H' hlt st s hg y
      have ed' : it.items[i] = d := by rw [List.getElem?_eq_getElem hlt] at ed; exact Option.some.inj ed
      rw [ed'] at h
      have hd3 : H' D = some (.lst accV) := st3.old _ _ hn hd
      cases hc : cTarget c d (wipeE env vs) with
      | none => rw [hc] at h; exact h.elim
      | some e1 =>
        rw [hc] at h
        dsimp only at h
        have st13 := st.trans st3
        refine target_run hv r3 (((e.mono st13)).wipe vs) (alike_wipe vs σ) hc fun σ2 er al => ⟨(wipe_alike al), ρ, e1, S, er, s3, ?_⟩
        cases ht : t e1 S with
        | err => rw [ht] at h; exact h.elim
        | exc c' S' => rw [ht] at h; exact h.elim
        | ok k S4 =>
          rw [ht] at h
          simp only [noEx, R.bind_ok] at h
          intro b ρ4 H4 st4 s4 rb
          cases rb
          have hd4 : H4 D = some (.lst accV) := st4.old _ _ hn hd3
          have hn4 : D ∉ ρ4 := fun hm => (st4.new D hm).elim hn fun z => by rw [hd3] at z; cases z
          have st14 := st13.trans st4
          by_cases hk : k = true
          · rw [if_pos hk] at h ⊢
            refine ⟨ρ4, e1, S4, er.mono st4, s4, ?_⟩
            cases hf : f e1 S4 with
            | err => rw [hf] at h; exact h.elim
            | exc c' S' => rw [hf] at h; exact h.elim
            | ok y5 S5 =>
              rw [hf] at h
              simp only [noEx, R.bind_ok] at h
              intro yv ρ5 H5 st5 s5 r5
              have hd5 : H5 D = some (.lst accV) := st5.old _ _ hn4 hd4
              have hn5 : D ∉ ρ5 := fun hm => (st5.new D hm).elim hn4 fun z => by rw [hd4] at z; cases z
              have st15 := st14.trans st5
              have l5 : RepL K ρ5 H5 accV acc := (l.mono st3).mono (st4.trans st5)
              refine ⟨accV, hd5, ?_, rfl, hlt, ρ5, S5, acc ++ [y5], accV ++ [yv], s5.updOff hd5 trivial hn5, st15.updNew hD, hn5, upd_same, repL_upd hd5 trivial (l5.append (.cons r5 .nil)), by rw [List.length_append, List.length_singleton]; omega, ?_⟩
              · rw [l.length, lim_eq]; omega
              · cases hr : lcL it.guard (cTarget c) t f (wipeE env vs) (it.items.drop (i + 1)) S5 with
                | err => rw [hr] at h; exact h.elim
                | exc c' S' => rw [hr] at h; exact h
                | ok ys S6 =>
                  rw [hr] at h
                  simp only [R.bind_ok] at h ⊢
                  rw [List.append_assoc]
                  exact h
          · rw [if_neg hk] at h ⊢
            exact ⟨rfl, hlt, ρ4, S4, acc, accV, s4, st14, hn4, hd4, (l.mono st3).mono st4, by omega, h⟩
    · rw [if_neg hg] at h; exact h.elim
  · have hdr : it.items.drop i = [] := List.drop_eq_nil_of_le (Nat.le_of_not_lt hlt)
    rw [hdr] at h
    unfold lcL at h
    by_cases hg : Grd it.guard S
    · rw [if_pos hg] at h
      simp only [R.bind_ok, List.append_nil] at h
      refine .inl ⟨wk.stop i H ρ S (Nat.le_of_not_lt hlt) st s hg, ?_⟩
      exact h (.ref D) (ρ ++ [D]) H (st.adopt hD) (s.adopt' hn ⟨accV, hd, Rep.more l⟩) (.ref (by rw [← s.len]; exact at_new _ _))
    · rw [if_neg hg] at h; exact h.elim
theorem tLc_of {tg iter : Expr} {fi : DI} {c : Nat ⊕ List Nat} {vs : List Nat} {t : DT} {f : DE} {σ : L2.St} {H : Hp} {Q : VK} (hv : ∀ i ∈ slotsOf c, i ∈ vs) (h : tD X.K X.mg raw W (dLc c vs fi t f) σ H Q) :
    tLc (tI X.K X.mg raw W fi) (gTarget X.K c) (tDT X.K X.mg [] W0 t) (tD X.K X.mg [] W0 f) vs σ H Q := by
  obtain ⟨ρ, env, S, e, s, h⟩ := h
  refine ⟨ρ, env, S, e, s, ?_⟩
  unfold dLc at h
  cases q : fi env S with
  | err => rw [q] at h; exact h
  | exc c S1 => rw [q] at h; exact h
  | ok it S1 =>
    rw [q] at h
    intro J ρ1 H1 st1 s1 wk
    have h1 := Post.later h st1
    simp only [R.bind_ok] at h1
    by_cases hz : it.items.length ≤ lim
    · rw [if_pos hz] at h1
      exact lc_run hv wk (e.mono st1) s1 hz h1
    · rw [if_neg hz] at h1; exact h1.elim
theorem ex_lc {elt tg iter : Expr} {ifs : List Expr} {scope : Scope} {own : List (Str × Nat)} {fi : DI} {c : Nat ⊕ List Nat} {t : DT} {f : DE} (hc : X.calm = true) (hN : X.N.Nodup) (hi : IX X raw W tg iter fi) (ok : BlkOk X.N X.env.scope scope own)
    (hg : ∀ (s : Shared) (H : Hp) (C : Addr) (cl : List (Str × Addr)) (fp : List Addr), PG (X.blk s H scope (compEnvC scope cl C X.env) fp) tg (gTarget X.K c))
    (ht : ∀ (s : Shared) (H : Hp) (C : Addr) (cl : List (Str × Addr)) (fp : List Addr), PTs (X.blk s H scope (compEnvC scope cl C X.env) fp) ifs (tDT X.K X.mg [] W0 t))
    (he : ∀ (s : Shared) (H : Hp) (C : Addr) (cl : List (Str × Addr)) (fp : List Addr), EX (X.blk s H scope (compEnvC scope cl C X.env) fp) [] W0 elt f)
    (hs : ∀ x, foldedSetIterable iter X.env x = pure x := by intro _; rfl) (hv : ∀ i ∈ slotsOf c, i ∈ own.map (·.2) := by decide) : EX X raw W (.ListComp elt [⟨tg, iter, ifs, 0⟩] scope pos) (dLc c (own.map (·.2)) fi t f) :=
  PE.imp (pe_lc hc hN hi ok hg ht he hs) fun σ H Q h => tLc_of (tg := tg) (iter := iter) hv h
theorem sx_setLc {i : Nat} {y : Str} {py : Pos} {elt tg iter : Expr} {ifs : List Expr} {scope : Scope} {own : List (Str × Nat)} {spos : Pos} {fi : DI} {c : Nat ⊕ List Nat} {t : DT} {f : DE} (hc : X.calm = true) (hN : X.N.Nodup) (hy : X.N[i]? = some y) (hyl : X.env.scope.names.lookup y = some .local)
    (hsw : swapsWith (.ListComp elt [⟨tg, iter, ifs, 0⟩] scope pos) (some (.Name y py)) spos.line X.env = pure true) (hi : IX X raw W tg iter fi) (ok : BlkOk X.N X.env.scope scope own)
    (hg : ∀ (s : Shared) (H : Hp) (C : Addr) (cl : List (Str × Addr)) (fp : List Addr), PG (X.blk s H scope (compEnvC scope cl C X.env) fp) tg (gTarget X.K c))
    (ht : ∀ (s : Shared) (H : Hp) (C : Addr) (cl : List (Str × Addr)) (fp : List Addr), PTs (X.blk s H scope (compEnvC scope cl C X.env) fp) ifs (tDT X.K X.mg [] W0 t))
    (he : ∀ (s : Shared) (H : Hp) (C : Addr) (cl : List (Str × Addr)) (fp : List Addr), EX (X.blk s H scope (compEnvC scope cl C X.env) fp) [] W0 elt f)
    (hs : ∀ x, foldedSetIterable iter X.env x = pure x := by intro _; rfl) (hv : ∀ i ∈ slotsOf c, i ∈ own.map (·.2) := by decide) (hr : ∀ p ∈ raw, p.1 ≠ i := by exact noraw) :
    SX X raw W (.Assign [.Name y py] (.ListComp elt [⟨tg, iter, ifs, 0⟩] scope pos) spos) (dSet i (dLc c (own.map (·.2)) fi t f)) :=
  PS.imp (ps_setLc hc hN hy hyl hsw hi ok hg ht he hs) fun σ H D ⟨ρ, env, S, e, s, h⟩ =>
    tLc_of (tg := tg) (iter := iter) hv (tG_thenS e s h fun d S1 v ρ1 H1 st e1 s1 r1 h1 => h1 _ ρ1 H1 (Stp.refl _ _) s1 (e1.set r1 hr))
/-- the tests of a comprehension -/
theorem txs_nil : PTs X [] (tDT X.K X.mg raw W dYes) := ⟨fun pins s σ H Q I ⟨ρ, env, S, e, sr, h⟩ => pts_nil.run pins s σ H Q I (post_val h sr rfl)⟩
theorem txs_one {c : Expr} {t : DT} (h : TX X raw W c t) : PTs X [c] (tDT X.K X.mg raw W t) := pts_one h
end
end RL

namespace RL
open PySem PySem.Spec PyProof.Rows L2

/-! ### dict displays -/
def pairsE : List (DE × DE) → Env → Sto → R (List (D × D))
  | [], _, S => .ok [] S
  | (k, v) :: r, env, S => (k env S).bind fun x S1 => (v env S1).bind fun y S2 => (pairsE r env S2).bind fun ps S3 => .ok ((x, y) :: ps) S3
def keysOk (ps : List (D × D)) : Bool := ps.all fun p => isKey p.1
def dDict (ps : List (DE × DE)) : DE := fun env S => (pairsE ps env S).bind fun kvs S1 => if keysOk kvs = true ∧ kvs.length ≤ 15 then .ok (.ref S1.length) (S1 ++ [.dict (mergeD [] kvs)]) else .err
section
variable {X : Cx} {raw : List (Nat × V)} {W : WX} {pos : Pos}
/-- the readings of the pairs -/
def trsOf (K : Fg) (mg : Mg) (raw : List (Nat × V)) (W : WX) (ps : List (DE × DE)) : List (TE × TE) := ps.map fun p => (tD K mg raw W p.1, tD K mg raw W p.2)
inductive RepP (K : Fg) (ρ : List Addr) (H : Hp) : List (V × V) → List (D × D) → Prop
  | nil : RepP K ρ H [] []
  | cons {x y : V} {a b : D} {vs : List (V × V)} {ds : List (D × D)} : Rep K ρ H x a → Rep K ρ H y b → RepP K ρ H vs ds → RepP K ρ H ((x, y) :: vs) ((a, b) :: ds)
theorem RepP.kv {K : Fg} {ρ : List Addr} {H : Hp} : ∀ {vs : List (V × V)} {ds : List (D × D)}, RepP K ρ H vs ds → keysOk ds = true → ∃ kvs : List (Key × V), vs = kvs.map (fun kv => (kV kv.1, kv.2)) ∧ RepKV K ρ H kvs ds
  | _, _, .nil, _ => ⟨[], rfl, .nil⟩
  | _, _, .cons rk rv t, h => by
    unfold keysOk at h
    rw [List.all_cons, Bool.and_eq_true] at h
    obtain ⟨kvs, e, l⟩ := RepP.kv t h.2
    obtain ⟨k, rfl, rfl⟩ := key_of_rep rk h.1
    exact ⟨(k, _) :: kvs, by rw [List.map_cons, ← e], .cons rv l⟩
theorem pairs_run {K : Fg} {mg : Mg} {σ : L2.St} {p : Addr} {Q : V → Hp → Prop} {ρ0 : List Addr} {H0 : Hp} : ∀ {ps : List (DE × DE)} {Q' : List (V × V) → Hp → Prop} {ρ : List Addr} {H : Hp} {env : Env} {S : Sto} {k : List (D × D) → Sto → R D}, ER K raw ρ H env σ → SR K mg ρ H S → Stp ρ0 H0 ρ H → p ∉ ρ → (∃ o, H p = some o) →
    Post K mg W ρ0 H0 σ (Rep K) ((pairsE ps env S).bind k) Q →
    (∀ vs ds ρ1 H1 S1, Stp ρ H ρ1 H1 → p ∉ ρ1 → H1 p = H p → SR K mg ρ1 H1 S1 → RepP K ρ1 H1 vs ds → Post K mg W ρ0 H0 σ (Rep K) (k ds S1) Q → Q' vs H1) → tPairs (trsOf K mg raw W ps) σ H Q'
  | [], Q', ρ, H, env, S, k, e, s, st, hp, ho, h, q => q [] [] ρ H S (Stp.refl _ _) hp rfl s .nil h
  | (fk, fv) :: r, Q', ρ, H, env, S, k, e, s, st, hp, ⟨o, ho⟩, h, q => by
    refine ⟨ρ, env, S, e, s, ?_⟩
    change Post K mg W ρ H σ (Rep K) (fk env S) _
    unfold pairsE at h
    cases q1 : fk env S with
    | err => rw [q1] at h; exact h.elim
    | exc c S1 => rw [q1] at h; exact fun C ρ' H' g st' sr => h C ρ' H' g (st.trans st') sr
    | ok a S1 =>
      rw [q1] at h
      intro x ρ1 H1 st1 s1 r1
      refine ⟨ρ1, env, S1, e.mono st1, s1, ?_⟩
      change Post K mg W ρ1 H1 σ (Rep K) (fv env S1) _
      simp only [R.bind_ok] at h
      cases q2 : fv env S1 with
      | err => rw [q2] at h; exact h.elim
      | exc c S2 => rw [q2] at h; exact fun C ρ' H' g st' sr => h C ρ' H' g ((st.trans st1).trans st') sr
      | ok b S2 =>
        rw [q2] at h
        intro y ρ2 H2 st2 s2 r2
        have hp1 : p ∉ ρ1 := fun hm => (st1.new p hm).elim hp fun z => by rw [ho] at z; cases z
        have ho1 : H1 p = some o := st1.old p o hp ho
        have hp2 : p ∉ ρ2 := fun hm => (st2.new p hm).elim hp1 fun z => by rw [ho1] at z; cases z
        have ho2 : H2 p = some o := st2.old p o hp1 ho1
        simp only [R.bind_ok] at h
        have h' : Post K mg W ρ0 H0 σ (Rep K) ((pairsE r env S2).bind fun ps S3 => k ((a, b) :: ps) S3) Q := by
          cases q3 : pairsE r env S2 <;> rw [q3] at h <;> exact h
        exact pairs_run ((e.mono st1).mono st2) s2 ((st.trans st1).trans st2) hp2 ⟨o, ho2⟩ h' fun vs ds ρ3 H3 S3 st3 hp3 e3 s3 l3 h3 =>
          q _ _ ρ3 H3 S3 ((st1.trans st2).trans st3) hp3 (by rw [e3, ho2, ho]) s3 (.cons ((r1.mono st2).mono st3) (r2.mono st3) l3) h3
theorem ex_dict {keys : List (Option Expr)} {values : List Expr} {ps : List (DE × DE)} (h : PPs X pos keys values (trsOf X.K X.mg raw W ps)) (hall : keys.all (·.isSome) = true) (hl : keys.length = values.length) (h0 : keys ≠ [])
    (h15 : keys.length ≤ 15) : EX X raw W (.Dict keys values pos) (dDict ps) :=
  PE.imp (pe_disp h hall hl h0 h15) fun σ H Q ⟨ρ, env, S, e, s, h⟩ p hp => by
    refine pairs_run (k := fun kvs S1 => if keysOk kvs = true ∧ kvs.length ≤ 15 then .ok (.ref S1.length) (S1 ++ [O.dict (mergeD [] kvs)]) else .err) (e.mono (stp_val hp)) (s.val hp) (stp_val hp) (s.fresh hp) ⟨_, upd_same⟩ h fun vs ds ρ1 H1 S1 st1 hp1 e1 s1 l1 h1 => ?_
    split at h1
    · rename_i hk
      rw [upd_same] at e1
      obtain ⟨kvs, rfl, rl⟩ := l1.kv hk.1
      have st := (Stp.trans (stp_val hp) st1 : Stp ρ H ρ1 H1)
      refine ⟨e1, kvs, rfl, by rw [rl.length]; exact hk.2, ?_⟩
      have s2 := s1.updOff (o' := .dK (mergeK [] kvs)) e1 trivial hp1
      exact h1 (.ref p) (ρ1 ++ [p]) _ ((st.updNew hp).adopt hp) (s2.adopt' hp1 ⟨_, upd_same, RepKV.more (repKV_upd e1 trivial (RepKV.merge rl .nil))⟩) (.ref (by rw [← s1.len]; exact at_new _ _))
    · exact h1.elim
def dDict0 : DE := fun _ S => .ok (.ref S.length) (S ++ [.dict []])
theorem ex_dict0 : EX X raw W (.Dict [] [] pos) dDict0 :=
  PE.imp pe_dnewK fun σ H Q ⟨ρ, env, S, e, s, h⟩ p hp => post_new h s hp ⟨[], upd_same, .nil⟩
end

/-! ### defs and their calls -/
abbrev Fn := List D → Sto → R D
def PostF (K : Fg) (mg : Mg) (ρ : List Addr) (H : Hp) (r : R D) (Q : VK) (E : XK) : Prop :=
  match r with
  | .ok d S' => ∀ v ρ' H', Stp ρ H ρ' H' → SR K mg ρ' H' S' → Rep K ρ' H' v d → Q v H'
  | .exc c S' => ∀ C ρ' H', mg c = some (.ref C) → Stp ρ H ρ' H' → SR K mg ρ' H' S' → E (.ref C) none H'
  | .err => False
def spM (K : Fg) (mg : Mg) (n : Nat) (m : Fn) : Sp := fun vs H Q E => vs.length = n ∧ ∃ ρ ds S, RepL K ρ H vs ds ∧ SR K mg ρ H S ∧ PostF K mg ρ H (m ds S) Q E
def runB (n : Nat) (b : DS) : Fn := fun ds S => match b (ds.map some ++ List.replicate (n - ds.length) none) S with
  | .nx _ S' => .ok .non S'
  | .rt d S' => .ok d S'
  | .exc c _ S' => .exc c S'
  | _ => .err
theorem RepL.get' {K : Fg} {ρ : List Addr} {H : Hp} : ∀ {vs : List V} {ds : List D} {i : Nat} {v : V}, RepL K ρ H vs ds → vs[i]? = some v → ∃ d, ds[i]? = some d ∧ Rep K ρ H v d
  | _, _, _, _, .nil, h => by simp at h
  | _, _, 0, _, .cons r t, h => by simp at h; subst h; exact ⟨_, rfl, r⟩
  | _, _, i + 1, _, .cons r t, h => by
    obtain ⟨v, q, r'⟩ := RepL.get' (i := i) t (by simpa using h)
    exact ⟨v, by simpa using q, r'⟩
section
variable {P : Program} {w : World} {K : Fg} {mg : Mg} {base : Heap}
theorem er_start {ρ : List Addr} {H : Hp} {N : List Str} {vs : List V} {ds : List D} (l : RepL K ρ H vs ds) : ER K [] ρ H (ds.map some ++ List.replicate (N.length - ds.length) none) (L2.start N vs) where
  len := by simp [L2.start, l.length]
  at_ := fun i d h => by
    by_cases hi : i < ds.length
    · rw [List.getElem?_append_left (by simpa using hi), List.getElem?_map] at h
      cases e : ds[i]? with
      | none => rw [e] at h; cases h
      | some d' =>
        rw [e] at h
        cases h
        obtain ⟨v, q, r⟩ := l.get e
        refine ⟨v, ?_, r⟩
        unfold L2.start
        rw [List.getElem?_append_left (by simp [l.length]; exact hi), List.getElem?_map, q]
        rfl
    · rw [List.getElem?_append_right (by simpa using hi), List.getElem?_replicate] at h
      split at h <;> cases h
  raw := fun _ h => nomatch h
theorem def_ok {x qual : Str} {st : Stmt} {f : Addr} {fd : FuncData} {N ps : List Str} {k : Nat} {body : DS} (F : Fun K x qual st f fd) (Sc : FnScope N ps (defScope st))
    (hb : ∀ (cdv : Value) (A : Around) (outer : List PySem.Env) (s : Shared) (H : Hp) (E : XK), Room k (A.deeper (envOfC qual (defScope st) s.heap.objs.size f cdv)) →
      BX (cxOf (L2.CX P w) P w K mg base N qual (defScope st) f cdv A outer s H E) [] (fun cls d _ H => E cls d H) (defBody st) body) : FnOk P w K mg base (L2.CX P w) (k + 1) f fd ps (spM K mg ps.length (runB N.length body)) := by
  refine F.okX Sc (fun vs H Q E h => h.1) fun cdv A outer s H vs Q E hr ⟨hl, ρ, ds, S, l, sr, h⟩ => ⟨_, hb cdv A outer s H E hr, ρ, _, S, er_start l, sr, ?_⟩
  unfold runB at h
  change PostS K mg [] _ ρ H (body (ds.map some ++ List.replicate (N.length - ds.length) none) S) _
  cases q : body (ds.map some ++ List.replicate (N.length - ds.length) none) S with
  | nx e S' => rw [q] at h; exact fun σ' ρ' H' st s' _ => h .non ρ' H' st s' .non
  | rt d S' => rw [q] at h; exact h
  | exc c e S' => rw [q] at h; exact fun C σ' ρ' H' g st s' _ => h C ρ' H' g st s'
  | bk e S' => rw [q] at h; exact h.elim
  | ct e S' => rw [q] at h; exact h.elim
  | err => rw [q] at h; exact h.elim
end
def dCall (n : Nat) (m : Fn) (fs : DA) : DE := fun env S => (fs env S).bind fun ds S1 => if ds.length = n then m ds S1 else .err
section
variable {X : Cx} {raw : List (Nat × V)} {W : WX} {pos p : Pos} {e : Expr} {es : List Expr} {fs : DA} {x : Str} {k n : Nat} {f : Addr} {fd : FuncData} {ps : List Str} {m : Fn}
theorem ex_call (F : FnOk X.prog X.w X.K X.mg X.base (L2.CX X.prog X.w) k f fd ps (spM X.K X.mg n m)) (hr : Room k X.A) (hm : X.mg x = some (.ref f)) (hk : PySem.W.keepIn X.K (.ref f) = true) (hb : Binds X.K fd ps []) (tk : Takes X W) (hg : Gl X x)
    (ha : AX X raw W (e :: es) fs) (hdb : (x == ("__debug__" : Str)) = false := by decide) (he : starEach (e :: es) X.env = (false, eval e X.env) :: starEach es X.env := by rfl) (hpl : (backTo pos (starEach es X.env)).any (·.1) = false := by rfl) :
    EX X raw W (.Call (.Name x p) (e :: es) [] pos) (dCall n m fs) :=
  PE.imp (pe_callS F hr hg hm hk hb (fun σ => passAt tk σ) ha hdb he hpl) fun σ H Q ⟨ρ, env, S, e, s, h⟩ => by
    refine ⟨ρ, env, S, e, s, ?_⟩
    unfold dCall at h
    cases hf : fs env S with
    | err => rw [hf] at h; exact h
    | exc c S1 => rw [hf] at h; exact h
    | ok ds S1 =>
      rw [hf] at h
      intro vs ρ1 H1 st sr l
      have h1 := Post.later h st
      simp only [R.bind_ok] at h1
      split at h1
      · rename_i hl
        refine ⟨by rw [l.length]; exact hl, ρ1, ds, S1, l, sr, ?_⟩
        cases q : m ds S1 with
        | ok d S2 => rw [q] at h1; exact h1
        | exc c S2 => rw [q] at h1; exact h1
        | err => rw [q] at h1; exact h1
      · exact h1.elim
end

section
variable {X : Cx} {raw : List (Nat × V)} {W : WX} {pos p : Pos} {x : Str} {k : Nat} {f : Addr} {fd : FuncData} {ps : List Str} {m : Fn}
theorem pe_callS0 {sp : Sp} {E : L2.St → XK} (F : FnOk X.prog X.w X.K X.mg X.base (L2.CX X.prog X.w) k f fd ps sp) (hr : Room k X.A) (hg : Gl X x) (hm : X.mg x = some (.ref f)) (hk : PySem.W.keepIn X.K (.ref f) = true) (hb : Binds X.K fd ps []) (hx : ∀ σ, PassesAt (L2.CX X.prog X.w) X σ (E σ))
    (hdb : (x == ("__debug__" : Str)) = false := by decide) : PE X (.Call (.Name x p) [] [] pos) (tCallS sp E tNil) := by
  refine ⟨fun pins s σ H Q I h => ?_⟩
  refine wpAny_Call_Name_kw (ld_glob I hg hm ?_ hdb)
  exact PySem.W.callWith_K0 I.kIn hk (run_fnS (us := []) F hr hb (hx σ) I .nil h)
theorem ex_call0 (F : FnOk X.prog X.w X.K X.mg X.base (L2.CX X.prog X.w) k f fd ps (spM X.K X.mg 0 m)) (hr : Room k X.A) (hm : X.mg x = some (.ref f)) (hk : PySem.W.keepIn X.K (.ref f) = true) (hb : Binds X.K fd ps []) (tk : Takes X W) (hg : Gl X x)
    (hdb : (x == ("__debug__" : Str)) = false := by decide) : EX X raw W (.Call (.Name x p) [] [] pos) (dCall 0 m dNilA) :=
  PE.imp (pe_callS0 F hr hg hm hk hb (fun σ => passAt tk σ) hdb) fun σ H Q ⟨ρ, env, S, e, s, h⟩ => by
    refine ⟨rfl, ρ, [], S, .nil, s, ?_⟩
    unfold dCall dNilA at h
    simp only [R.bind_ok, List.length_nil, if_pos] at h
    cases q : m [] S with
    | ok d S2 => rw [q] at h; exact h
    | exc c S2 => rw [q] at h; exact h
    | err => rw [q] at h; exact h
end

/-! ### raise, try -/
abbrev veB : List Value := [.type "ValueError", .type "Exception", .type "BaseException", .type "object"]
structure ExcF (K : Fg) (C : Addr) : Prop where
  q : PySem.W.excIn K C veB "ValueError.__new__" = true
  kp : PySem.W.keepIn K (.ref C) = true
  sb : PySem.W.subIn K (.ref C) (.type "BaseException") = some true
  ty : PySem.W.typeIn K (.ref C) = some (.type "type")
theorem sx_raise {X : Cx} {raw : List (Nat × V)} {W : WX} {x m : Str} {j : Nat} {p p2 pos pos' : Pos} {C : Addr} (hc : X.calm = true) (tk : Takes X W) (F : ExcF X.K C) (gC : X.mg x = some (.ref C)) (hg : Gl X x)
    (hdb : (x == ("__debug__" : Str)) = false := by decide) : SX X raw W (.Raise (some (.Call (.Name x p) [.Constant (.str m) j p2] [] pos)) none pos') (dRaise x) :=
  PS.imp (ps_raise hc tk (pmk_own PySem.F.excBase_ValueError F.q gC F.kp (raises_own F.sb F.ty) hg hdb)) fun σ H D ⟨ρ, env, S, e, s, h⟩ => h C σ ρ H gC (Stp.refl _ _) s e

/-! ### the law -/
def spLaw (K : Fg) : Sp := fun vs H Q _ => ∃ (a : Addr) (ns : List Int), vs = [.ref a] ∧ SqL K H a (ns.map V.int) ∧ ns.length ≤ 63 ∧ Only H ∧ ∀ H', Q (.bl true) H'
theorem repL_ints' {K : Fg} {ρ : List Addr} {H : Hp} (ns : List Int) : RepL K ρ H (ns.map V.int) (ns.map D.int) := repL_ints ns
theorem law_ok {P : Program} {w : World} {K : Fg} {mg : Mg} {base : Heap} {k : Nat} {f : Addr} {fd : FuncData} {ps : List Str} {m : Fn} (F : FnOk P w K mg base (L2.CX P w) k f fd ps (spM K mg 1 m))
    (h : ∀ ns : List Int, ns.length ≤ 63 → ∃ S', m [.scr (ns.map D.int)] [] = .ok (.bl true) S') : FnOk P w K mg base (L2.CX P w) k f fd ps (spLaw K) :=
  F.imp fun vs H Q E ⟨a, ns, ev, hS, hl, hO, q⟩ => by
    subst ev
    obtain ⟨S', hm⟩ := h ns hl
    refine ⟨rfl, [], [.scr (ns.map D.int)], [], .cons (.scr ?_ (repL_ints ns)) .nil, ⟨rfl, List.nodup_nil, fun n o a h => by simp at h⟩, ?_⟩
    · rcases hS with (hS | ⟨o, hS⟩) | hS
      · rcases hO a with z | ⟨o, xs, z⟩
        · rw [hS] at z; cases z
        · rw [hS] at z; cases z
      · exact .inl ⟨o, hS⟩
      · exact .inr hS
    · rw [hm]
      intro v ρ' H' _ _ r
      cases r
      exact q H'
end RL

namespace RL
open PySem PySem.Spec PyProof.Rows L2

/-! ### short words for a program -/
/-- a def of the top, as the top leaves it -/
def FunAt (K : Fg) (mg : Mg) (x : Str) (st : Stmt) (ps : List Str) : Prop := ∃ f fd, Fun K x x st f fd ∧ mg x = some (.ref f) ∧ Binds K fd ps []
/-- a def that may be called: what it is worth -/
def Cal (P : Program) (w : World) (K : Fg) (mg : Mg) (base : Heap) (x : Str) (k n : Nat) (m : Fn) : Prop :=
  ∃ f fd ps, FnOk P w K mg base (L2.CX P w) k f fd ps (spM K mg n m) ∧ mg x = some (.ref f) ∧ PySem.W.keepIn K (.ref f) = true ∧ Binds K fd ps []
section
variable {P : Program} {w : World} {K : Fg} {mg : Mg} {base : Heap}
theorem Cal.mono {x : Str} {j k n : Nat} {m : Fn} (h : Cal P w K mg base x j n m) (hk : j ≤ k) : Cal P w K mg base x k n m :=
  let ⟨f, fd, ps, F, g, q, b⟩ := h
  ⟨f, fd, ps, F.mono hk, g, q, b⟩
theorem cal_of {x : Str} {st : Stmt} {N ps : List Str} {k : Nat} {body : DS} (F : FunAt K mg x st ps) (Sc : FnScope N ps (defScope st))
    (hb : ∀ (f : Addr) (cdv : Value) (A : Around) (outer : List PySem.Env) (s : Shared) (H : Hp) (E : XK), Room k (A.deeper (envOfC x (defScope st) s.heap.objs.size f cdv)) →
      BX (cxOf (L2.CX P w) P w K mg base N x (defScope st) f cdv A outer s H E) [] (fun cls d _ H => E cls d H) (defBody st) body) : Cal P w K mg base x (k + 1) ps.length (runB N.length body) := by
  obtain ⟨f, fd, F, g, b⟩ := F
  exact ⟨f, fd, ps, def_ok F Sc (hb f), g, F.kp, b⟩
end
section
variable {X : Cx} {raw : List (Nat × V)} {W : WX} {pos p : Pos} {e : Expr} {es : List Expr} {fs : DA} {x : Str} {j k n : Nat} {m : Fn}
theorem cx_call (F : Cal X.prog X.w X.K X.mg X.base x j n m) (hr : Room k X.A) (hj : j ≤ k) (tk : Takes X W) (hg : Gl X x) (ha : AX X raw W (e :: es) fs)
    (hdb : (x == ("__debug__" : Str)) = false := by decide) (he : starEach (e :: es) X.env = (false, eval e X.env) :: starEach es X.env := by rfl) (hpl : (backTo pos (starEach es X.env)).any (·.1) = false := by rfl) :
    EX X raw W (.Call (.Name x p) (e :: es) [] pos) (dCall n m fs) := by
  obtain ⟨f, fd, ps, F, g, q, b⟩ := F
  exact ex_call F (hr.mono hj) g q b tk hg ha hdb he hpl
theorem cx_call0 (F : Cal X.prog X.w X.K X.mg X.base x j 0 m) (hr : Room k X.A) (hj : j ≤ k) (tk : Takes X W) (hg : Gl X x) (hdb : (x == ("__debug__" : Str)) = false := by decide) : EX X raw W (.Call (.Name x p) [] [] pos) (dCall 0 m dNilA) := by
  obtain ⟨f, fd, ps, F, g, q, b⟩ := F
  exact ex_call0 F (hr.mono hj) g q b tk hg hdb
theorem u65 (hr : Room k X.A) : X.A.units + 65 < cLine := by have := hr.un; omega
theorem u64 (hr : Room k X.A) : X.A.units + 64 < cLine := by have := hr.un; omega
theorem u1 (hr : Room k X.A) : X.A.units + 1 < cLine := by have := hr.un; omega
end

/-! ### for over a list, a tuple or a text -/
def itAny (x : D) (S : Sto) : R ItD := match x with
  | .tup ds => .ok ⟨ds, []⟩ S
  | .str z => .ok ⟨strs1 z, []⟩ S
  | x => itOf x S
def dItA (f : DE) : DI := fun env S => (f env S).bind itAny
section
variable {X : Cx} {raw : List (Nat × V)} {W : WX} {pos p : Pos} {tg e a b : Expr} {f : DE} {fs : DA}
theorem it_any (he : EX X raw W e f) : IX X raw W tg e (dItA f) := ⟨fun pins s σ H R I ⟨ρ, env, S, er, sr, h⟩ => by
  cases q : f env S with
  | err => unfold dItA at h; rw [q] at h; exact h.elim
  | exc c S1 => exact (ix_list he).run pins s σ H R I ⟨ρ, env, S, er, sr, by unfold dIt; unfold dItA at h; rw [q] at h ⊢; exact h⟩
  | ok d S1 =>
    unfold dItA at h
    rw [q] at h
    cases d with
    | tup ds => exact (ix_tuple he).run pins s σ H R I ⟨ρ, env, S, er, sr, by unfold dItT; rw [q]; exact h⟩
    | str z => exact (ix_text he).run pins s σ H R I ⟨ρ, env, S, er, sr, by unfold dItS; rw [q]; exact h⟩
    | scr ds => exact (ix_list he).run pins s σ H R I ⟨ρ, env, S, er, sr, by unfold dIt; rw [q]; exact h⟩
    | ref n => exact (ix_list he).run pins s σ H R I ⟨ρ, env, S, er, sr, by unfold dIt; rw [q]; exact h⟩
    | non => exact h.elim
    | bl _ => exact h.elim
    | int _ => exact h.elim⟩
/-- range(a, b, c) -/
def rangeC (lo c : Int) (n : Nat) : List D := (List.range n).map fun i => .int (lo + (i : Nat) * c)
def dRange3 (fs : DA) : DI := fun env S => (fs env S).bind fun xs S1 => match xs with
  | [.int i, .int j, .int c] => if c ≠ 0 ∧ c.natAbs < 1073741824 ∧ Builtin.Range.small i j c = true ∧ 0 ≤ Builtin.Range.rangeSize i j c then .ok ⟨rangeC i c (Builtin.Range.rangeSize i j c).toNat, []⟩ S1 else .err
  | _ => .err
theorem wk_rangeC {K : Fg} {mg : Mg} {ρ : List Addr} {H : Hp} {lo c : Int} {n : Nat} : Wk K mg (Itc lo c n) ρ H ⟨rangeC lo c n, []⟩ where
  go := fun i H' ρ' S hi st s g => (by simpa [rangeC] using hi : i < n)
  stop := fun i H' ρ' S hi st s g => (by simpa [rangeC] using hi : n ≤ i)
  yld := fun i H' ρ' S x H2 hi st s g ⟨e, y⟩ => by
    subst e; subst y
    have hi' : i < n := by simpa [rangeC] using hi
    refine ⟨.int (lo + i * c), ?_, .int _, Stp.refl _ _, s⟩
    simp [rangeC, hi']
theorem it_range3 {c : Expr} (hg : Gl X "range") (hm : X.mg "range" = none) (ha : AX X raw W [a, b, c] fs) (hs : starEach [a, b, c] X.env = (false, eval a X.env) :: starEach [b, c] X.env := by rfl) (hpl : (backTo pos (starEach [b, c] X.env)).any (·.1) = false := by rfl) :
    IX X raw W tg (.Call (.Name "range" p) [a, b, c] [] pos) (dRange3 fs) :=
  PI.imp (pi_range3 hg hm ha hs hpl) fun σ H Q ⟨ρ, env, S, e, s, h⟩ => tG_bindI e s h fun d S1 v ρ1 H1 st e1 s1 r1 h1 => by
    split at h1
    · rename_i i j c
      cases r1 with
      | cons r t =>
        cases t with
        | cons r2 t =>
          cases t with
          | cons r3 t =>
            cases t; cases r; cases r2; cases r3
            split at h1
            · rename_i hj
              exact ⟨i, j, c, _, rfl, ⟨hj.1, hj.2.1, hj.2.2.1, by rw [Int.toNat_of_nonneg hj.2.2.2]⟩, h1 _ ρ1 H1 (Stp.refl _ _) s1 wk_rangeC⟩
            · exact h1.elim
    · exact h1.elim
end

/-! ### dicts of the module with text keys and texts -/
inductive KTab : List DictEntry → List (Str × D) → Prop where
  | nil : KTab [] []
  | str {e : DictEntry} {x y : Str} {t u : Tok} {r : List DictEntry} {tb : List (Str × D)} : e.key = .str x t → e.val = .str y u → KTab r tb → KTab (e :: r) ((x, .str y) :: tb)
theorem KTab.find {z : Str} : ∀ {es : List DictEntry} {tb : List (Str × D)}, KTab es tb → (es.find? (·.key.isStr z) = none ∧ tb.lookup z = none) ∨ ∃ e v d, es.find? (·.key.isStr z) = some e ∧ tb.lookup z = some d ∧ RelV v e.val ∧ ∀ K ρ H, Rep K ρ H v d
  | _, _, .nil => .inl ⟨rfl, rfl⟩
  | _, _, .str (e := e) (x := x) (y := y) (u := u) hk hv t => by
    by_cases h : z = x
    · subst h
      refine .inr ⟨e, .str y, .str y, ?_, by simp [List.lookup], ⟨u, hv⟩, fun _ _ _ => .str y⟩
      exact List.find?_cons_of_pos (p := fun (x : DictEntry) => x.key.isStr z) (by rw [hk, PySem.W.isStr_of]; simp [Value.isStrOf])
    · have hb : ¬ e.key.isStr z = true := by
        rw [hk, PySem.W.isStr_of]
        simp [Value.isStrOf]
        exact fun q => h (q.symm)
      have hl : (z == x) = false := by simpa using h
      rw [List.find?_cons_of_neg (p := fun (x : DictEntry) => x.key.isStr z) hb]
      rcases t.find (z := z) with ⟨h1, h2⟩ | ⟨e', v, d, h1, h2, h3, h4⟩
      · exact .inl ⟨h1, by simp [List.lookup, hl, h2]⟩
      · exact .inr ⟨e', v, d, h1, by simp [List.lookup, hl, h2], h3, h4⟩
theorem KTab.noref : ∀ {es : List DictEntry} {tb : List (Str × D)}, KTab es tb → es.any (·.refKey) = false
  | _, _, .nil => rfl
  | _, _, .str hk _ t => by
    rw [List.any_cons, t.noref, DictEntry.refKey, hk] <;> rfl
/-- a module's dict -/
def KD (K : Fg) (w : World) (mg : Mg) (x : Str) (tb : List (Str × D)) : Prop := ∃ d es n, mg x = some (.ref d) ∧ KDict K w d es n ∧ KTab es.toList tb
def gInK (tb : List (Str × D)) : G1 := fun x S => match x with
  | .str z => .ok (.bl (tb.lookup z).isSome) S
  | _ => .err
def gNotInK (tb : List (Str × D)) : G1 := fun x S => match x with
  | .str z => .ok (.bl (!(tb.lookup z).isSome)) S
  | _ => .err
def gIxK (tb : List (Str × D)) : G1 := fun x S => match x with
  | .str z => match tb.lookup z with
    | some d => .ok d S
    | none => .err
  | _ => .err
theorem nsIn_tab {K : Fg} {w : World} {d : Addr} {es : Array DictEntry} {n : Nat} {tb : List (Str × D)} (D : KDict K w d es n) (t : KTab es.toList tb) (z : Str) :
    ∃ r, PySem.W.nsIn K d z = some r ∧ ((r = none ∧ tb.lookup z = none) ∨ ∃ u v dd, r = some u ∧ tb.lookup z = some dd ∧ RelV v u ∧ ∀ K ρ H, Rep K ρ H v dd) := by
  unfold PySem.W.nsIn
  rw [D.at_]
  dsimp only
  rcases t.find (z := z) with ⟨h1, h2⟩ | ⟨e', v, d, h1, h2, h3, h4⟩
  · rw [h1]
    dsimp only
    rw [t.noref, if_neg Bool.false_ne_true]
    exact ⟨none, rfl, .inl ⟨rfl, h2⟩⟩
  · rw [h1]
    exact ⟨some e'.val, rfl, .inr ⟨_, v, d, rfl, h2, h3, h4⟩⟩
section
variable {X : Cx} {raw : List (Nat × V)} {W : WX} {pos p : Pos} {a : Expr} {f : DE} {x : Str} {tb : List (Str × D)}
theorem ex_inK (F : KD X.K X.w X.mg x tb) (hg : Gl X x) (ha : EX X raw W a f) (hm : behindInMarks .In (.Name x p) = false := by with_unfolding_all rfl) (hd : (x == ("__debug__" : Str)) = false := by decide) : EX X raw W (.Compare a [.In] [.Name x p] pos) (dUn (gInK tb) f) := by
  obtain ⟨d, es, n, g, D, t⟩ := F
  refine PE.imp (pe_cmpR (op_in_kd D) ha (pe_glob hg g (v := .ref d) rfl hd) hm) fun σ H Q ⟨ρ, env, S, e, s, h⟩ => tG_bind e s h fun k S1 v ρ1 H1 st e1 s1 r1 h1 => ?_
  unfold gInK at h1
  split at h1
  · rename_i z
    cases r1
    obtain ⟨r, e2, h2⟩ := nsIn_tab D t z
    refine ⟨z, r, rfl, rfl, e2, ?_⟩
    rcases h2 with ⟨rfl, h2⟩ | ⟨u, v, dd, rfl, h2, _, _⟩
    · rw [h2] at h1; exact post_val h1 s1 (.bl _)
    · rw [h2] at h1; exact post_val h1 s1 (.bl _)
  · exact h1.elim
theorem ex_notInK (F : KD X.K X.w X.mg x tb) (hg : Gl X x) (ha : EX X raw W a f) (hm : behindInMarks .NotIn (.Name x p) = false := by with_unfolding_all rfl) (hd : (x == ("__debug__" : Str)) = false := by decide) : EX X raw W (.Compare a [.NotIn] [.Name x p] pos) (dUn (gNotInK tb) f) := by
  obtain ⟨d, es, n, g, D, t⟩ := F
  refine PE.imp (pe_cmpR (op_notIn_kd D) ha (pe_glob hg g (v := .ref d) rfl hd) hm) fun σ H Q ⟨ρ, env, S, e, s, h⟩ => tG_bind e s h fun k S1 v ρ1 H1 st e1 s1 r1 h1 => ?_
  unfold gNotInK at h1
  split at h1
  · rename_i z
    cases r1
    obtain ⟨r, e2, h2⟩ := nsIn_tab D t z
    refine ⟨z, r, rfl, rfl, e2, ?_⟩
    rcases h2 with ⟨rfl, h2⟩ | ⟨u, v, dd, rfl, h2, _, _⟩
    · rw [h2] at h1; exact post_val h1 s1 (.bl _)
    · rw [h2] at h1; exact post_val h1 s1 (.bl _)
  · exact h1.elim
theorem ix_kd {d : Addr} {es : Array DictEntry} {n : Nat} (D : KDict X.K X.w d es n) : IxR X (fun x y H Q => ∃ (z : Str) (u0 : Value) (v0 : V), x = .ref d ∧ y = .str z ∧ PySem.W.nsIn X.K d z = some (some u0) ∧ RelV v0 u0 ∧ Q v0 H) := by
  intro value slice pins s σ H x y v u Q I rx ry h hs
  obtain ⟨z, u0, v0, rfl, rfl, e, r, q⟩ := h
  obtain rfl : v = Value.ref d := rx
  exact tail_any (kd_type D I) PySem.F.slot_dict_getitem.lookup (op_item_kd D pins s σ H (.ref d) (.str z) _ u Q I rfl ry ⟨z, u0, v0, rfl, rfl, e, r, q⟩) hs
theorem ex_ixK (F : KD X.K X.w X.mg x tb) (hg : Gl X x) (ha : EX X raw W a f) (hs : PlainIx a) (hd : (x == ("__debug__" : Str)) = false := by decide) : EX X raw W (.Subscript (.Name x p) a pos) (dUn (gIxK tb) f) := by
  obtain ⟨d, es, n, g, D, t⟩ := F
  refine PE.imp (pe_ix (ix_kd D) (pe_glob hg g (v := .ref d) rfl hd) ha hs) fun σ H Q ⟨ρ, env, S, e, s, h⟩ => tG_bind e s h fun k S1 v ρ1 H1 st e1 s1 r1 h1 => ?_
  unfold gIxK at h1
  split at h1
  · rename_i z
    cases r1
    obtain ⟨r, e2, h2⟩ := nsIn_tab D t z
    split at h1
    · rename_i dd ed
      rcases h2 with ⟨rfl, h2⟩ | ⟨u, v, d', rfl, h2, h3, h4⟩
      · rw [h2] at ed; cases ed
      · rw [h2] at ed; cases ed
        exact ⟨z, u, v, rfl, rfl, e2, h3, post_val h1 s1 (h4 _ _ _)⟩
    · exact h1.elim
  · exact h1.elim
end

/-! ### constants of the module -/
inductive KVals : List Value → List V → List D → Prop where
  | nil : KVals [] [] []
  | str {x : Str} {t : Tok} {us : List Value} {vs : List V} {ds : List D} : KVals us vs ds → KVals (.str x t :: us) (.str x :: vs) (.str x :: ds)
  | int {i : Int} {t : Tok} {us : List Value} {vs : List V} {ds : List D} : KVals us vs ds → KVals (.int i t :: us) (.int i :: vs) (.int i :: ds)
theorem KVals.vals : ∀ {us : List Value} {vs : List V} {ds : List D}, KVals us vs ds → Vals vs us
  | _, _, _, .nil => .nil
  | _, _, _, .str t => .cons ⟨_, rfl⟩ t.vals
  | _, _, _, .int t => .cons ⟨_, rfl⟩ t.vals
theorem KVals.rep {K : Fg} {ρ : List Addr} {H : Hp} : ∀ {us : List Value} {vs : List V} {ds : List D}, KVals us vs ds → RepL K ρ H vs ds
  | _, _, _, .nil => .nil
  | _, _, _, .str t => .cons (.str _) t.rep
  | _, _, _, .int t => .cons (.int _) t.rep
theorem repK_int {K : Fg} {i : Int} {t : Tok} : RepK K (.int i t) (.int i) := ⟨.int i, ⟨t, rfl⟩, fun _ _ => .int i⟩
theorem repK_str {K : Fg} {i : Str} {t : Tok} : RepK K (.str i t) (.str i) := ⟨.str i, ⟨t, rfl⟩, fun _ _ => .str i⟩
theorem repK_tup {K : Fg} {a : Addr} {dd : Option Addr} {us : List Value} {n : Nat} {sl : Array (Option Value)} {vs : List V} {ds : List D} (h : K.lookup a = some ⟨.type "tuple", dd, .seq us.toArray n, sl⟩) (q : KVals us vs ds) (hz : us.length ≤ 1000 := by simp) : RepK K (.ref a) (.tup ds) :=
  ⟨.ref a, rfl, fun ρ H => .tup (.inr ⟨_, us.toArray, n, h, rfl, rfl, by rw [List.size_toArray, sizeLine_eq]; omega, by simpa using q.vals⟩) q.rep⟩
end RL

namespace RL
open PySem PySem.Spec PyProof.Rows L2

/-! ### a def that nothing is known of (the ground of a recursion) -/
theorem bx_err {X : Cx} {raw : List (Nat × V)} {W : WX} {b : List Stmt} : BX X raw W b (fun _ _ => .err) := ⟨fun _ _ _ _ _ _ ⟨_, _, _, _, _, h⟩ => h.elim⟩
def errF : Fn := fun _ _ => .err
theorem runB_errF {n : Nat} : runB n (fun _ _ => .err) = errF := rfl
section
variable {P : Program} {w : World} {K : Fg} {mg : Mg} {base : Heap}
theorem cal_err {x : Str} {st : Stmt} {N ps : List Str} {k : Nat} (F : FunAt K mg x st ps) (Sc : FnScope N ps (defScope st)) : Cal P w K mg base x (k + 1) ps.length errF :=
  cal_of (N := N) (body := fun _ _ => .err) F Sc fun _ _ _ _ _ _ _ _ => bx_err
end

/-! ### try .. except C as e -/
def endAs (i : Nat) : Fl → Fl
  | .nx e S => .nx (e.set i none) S
  | .rt d S => .rt d S
  | .bk e S => .bk (e.set i none) S
  | .ct e S => .ct (e.set i none) S
  | _ => .err
def dTryAs (sb : List (Str × Bool)) (i : Nat) (b : DS) (s : Str → DS) : DS := fun env S => match b env S with
  | .exc c e S1 => match sb.lookup c with
    | some true => if i < e.length then endAs i (s c (e.set i none) S1) else .err
    | some false => .exc c e S1
    | none => .err
  | r => r
def endOn : Fl → Fl
  | .exc _ _ _ => .err
  | r => r
def dTryOn (sb : List (Str × Bool)) (b : DS) (s : Str → DS) : DS := fun env S => match b env S with
  | .exc c e S1 => match sb.lookup c with
    | some true => endOn (s c e S1)
    | some false => .exc c e S1
    | none => .err
  | r => r
/-- what the clauses' tables say -/
def ExmT (K : Fg) (mg : Mg) (sb : List (Str × Bool)) (C : Value) : Prop := ∀ (c : Str) (b : Bool) (D : Addr), sb.lookup c = some b → mg c = some (.ref D) → PySem.W.exmOne K (.ref D) C = some b
def KitT (K : Fg) (mg : Mg) (sb : List (Str × Bool)) (C : Value) : Prop := ∀ (c : Str) (b : Bool) (D : Addr), sb.lookup c = some b → mg c = some (.ref D) → PySem.W.kitOne K (.ref D) C = some b
theorem ExmT.nil {K : Fg} {mg : Mg} {C : Value} : ExmT K mg [] C := fun _ _ _ h => nomatch h
theorem ExmT.cons {K : Fg} {mg : Mg} {C : Value} {c : Str} {b : Bool} {sb : List (Str × Bool)} {D : Addr} (g : mg c = some (.ref D)) (h : PySem.W.exmOne K (.ref D) C = some b) (r : ExmT K mg sb C) : ExmT K mg ((c, b) :: sb) C := fun c' b' D' q m => by
  rw [List.lookup_cons] at q
  cases e : c' == c with
  | true =>
    rw [e] at q; cases q
    have e' := beq_iff_eq.mp e
    subst e'
    rw [g] at m; cases m
    exact h
  | false => rw [e] at q; exact r c' b' D' q m
theorem KitT.nil {K : Fg} {mg : Mg} {C : Value} : KitT K mg [] C := fun _ _ _ h => nomatch h
theorem KitT.cons {K : Fg} {mg : Mg} {C : Value} {c : Str} {b : Bool} {sb : List (Str × Bool)} {D : Addr} (g : mg c = some (.ref D)) (h : PySem.W.kitOne K (.ref D) C = some b) (r : KitT K mg sb C) : KitT K mg ((c, b) :: sb) C := fun c' b' D' q m => by
  rw [List.lookup_cons] at q
  cases e : c' == c with
  | true =>
    rw [e] at q; cases q
    have e' := beq_iff_eq.mp e
    subst e'
    rw [g] at m; cases m
    exact h
  | false => rw [e] at q; exact r c' b' D' q m
section
variable {X : Cx} {raw : List (Nat × V)} {W : WX} {x n : Str} {C : Value} {i : Nat} {body suite : List Stmt} {b₀ : Stmt} {np pos pos' : Pos} {b : DS} {s : Str → DS} {sb : List (Str × Bool)}
theorem ER.drop {K : Fg} {ρ : List Addr} {H : Hp} {env : Env} {σ : L2.St} {i : Nat} {o : Option V} (e : ER K raw ρ H env σ) (hr : ∀ p ∈ raw, p.1 ≠ i) : ER K raw ρ H (env.set i none) (σ.set i o) :=
  ⟨by simp [e.len], fun j d' h => by
    by_cases hj : j = i
    · subst hj
      obtain ⟨q, e'⟩ := List.getElem?_eq_some_iff.mp h
      simp at q e'
    · rw [List.getElem?_set_ne (Ne.symm hj)] at h
      obtain ⟨v', q, r'⟩ := e.at_ j d' h
      exact ⟨v', by rw [List.getElem?_set_ne (Ne.symm hj)]; exact q, r'⟩,
  fun p hp => by rw [List.getElem?_set_ne (Ne.symm (hr p hp))]; exact e.raw p hp⟩
theorem ER.more {K : Fg} {ρ : List Addr} {H : Hp} {env : Env} {σ : L2.St} {i : Nat} {v : V} (e : ER K raw ρ H env σ) (hr : ∀ p ∈ raw, p.1 ≠ i) (hi : i < env.length) : ER K ((i, v) :: raw) ρ H (env.set i none) (σ.set i (some v)) :=
  ⟨(e.drop hr).len, (e.drop hr).at_, fun p hp => by
    rcases List.mem_cons.mp hp with rfl | hp
    · rw [List.getElem?_set_self (by rw [e.len]; exact hi)]
    · exact (e.drop hr).raw p hp⟩
theorem ER.less {K : Fg} {ρ : List Addr} {H : Hp} {env : Env} {σ : L2.St} {p : Nat × V} (e : ER K (p :: raw) ρ H env σ) : ER K raw ρ H env σ := ⟨e.len, e.at_, fun q hq => e.raw q (List.mem_cons_of_mem _ hq)⟩
theorem sx_tryAs (hs : X.stack = X.env :: X.outer) (hf : X.env.frame = some X.env.locals) (hN : X.N.Nodup) (hi : X.N[i]? = some n) (hln : X.env.kindOf n = some .local) (hc : Names X x C) (tk : Takes X W)
    (hx : ExmT X.K X.mg sb C) (hri : ∀ p ∈ raw, p.1 ≠ i)
    (hb : ∀ (W' : WX) (pn : List (Addr × Obj)) (xe : Value → Shared → Prop), Takes (X.tr pn xe) W' → PassesOwn (model X.prog X.w) X.A X.env xe → BX (X.tr pn xe) raw W' body b)
    (hsu : ∀ (c : Str) (D a : Addr) (oe : Obj) (pn : List (Addr × Obj)), sb.lookup c = some true → X.mg c = some (.ref D) → Zc (.ref D) none oe → (∃ vs, oe.data = .fields vs) → BX (X.suite a ((a, oe) :: pn)) ((i, .ref a) :: raw) (fun _ _ _ _ => False) (b₀ :: suite) (s c)) :
    SX X raw W (.Try body [.ExceptHandler (some (.Name x np)) (some n) (b₀ :: suite) pos'] [] [] pos) (dTryAs sb i b s) := by
  refine PS.imp (ps_try_as (ts := fun a cls d Dn σ H => ∃ c D, cls = .ref D ∧ d = none ∧ X.mg c = some (.ref D) ∧ sb.lookup c = some true ∧ tS X.K X.mg ((i, .ref a) :: raw) (fun _ _ _ _ => False) (s c) Dn σ H) (tb := fun W' => tS X.K X.mg raw W' b) hs hf hN hi hln hc tk hb
    (fun a oe cls d pn hz hd => ⟨fun pins t σ H Dn I ⟨c, D, e1, e2, g, q, h⟩ => by subst e1; subst e2; exact (hsu c D a oe pn q g hz hd).run pins t σ H Dn I h⟩)) fun σ H Dn ⟨ρ, env, S, e, sr, h⟩ => ?_
  refine ⟨ρ, env, S, e, sr, ?_⟩
  unfold dTryAs at h
  cases q : b env S with
  | nx e1 S1 => rw [q] at h; exact h
  | rt d S1 => rw [q] at h; exact h
  | bk e1 S1 => rw [q] at h; exact h
  | ct e1 S1 => rw [q] at h; exact h
  | err => rw [q] at h; exact h
  | exc c e1 S1 =>
    rw [q] at h
    dsimp only at h
    intro D σ' ρ' H' g st sr' er
    cases qs : sb.lookup c with
    | none => rw [qs] at h; exact h.elim
    | some bb =>
      rw [qs] at h
      refine ⟨bb, hx c bb D qs g, fun hbb a ha => ?_, fun hbb => ?_⟩
      · subst hbb
        dsimp only at h
        split at h
        · rename_i hl
          refine ⟨c, D, rfl, rfl, g, qs, ρ', _, S1, er.more hri hl, sr', ?_⟩
          cases qq : s c (e1.set i none) S1 with
          | nx e2 S2 => rw [qq] at h; exact fun σ2 ρ2 H2 st2 s2 er2 => h _ ρ2 H2 (st.trans st2) s2 (er2.less.drop hri)
          | rt d S2 => rw [qq] at h; exact fun v ρ2 H2 st2 s2 r2 => h v ρ2 H2 (st.trans st2) s2 r2
          | bk e2 S2 => rw [qq] at h; exact fun σ2 ρ2 H2 st2 s2 er2 => h _ ρ2 H2 (st.trans st2) s2 (er2.less.drop hri)
          | ct e2 S2 => rw [qq] at h; exact fun σ2 ρ2 H2 st2 s2 er2 => h _ ρ2 H2 (st.trans st2) s2 (er2.less.drop hri)
          | exc c2 e2 S2 => rw [qq] at h; exact h.elim
          | err => rw [qq] at h; exact h.elim
        · exact h.elim
      · subst hbb
        exact h D σ' ρ' H' g st sr' er
theorem sx_tryOn (hs : X.stack = X.env :: X.outer) (hf : X.env.frame = some X.env.locals) (hc : Names X x C) (tk : Takes X W)
    (hx : ExmT X.K X.mg sb C)
    (hb : ∀ (W' : WX) (pn : List (Addr × Obj)) (xe : Value → Shared → Prop), Takes (X.tr pn xe) W' → PassesOwn (model X.prog X.w) X.A X.env xe → BX (X.tr pn xe) raw W' body b)
    (hsu : ∀ (c : Str) (D a : Addr) (oe : Obj) (pn : List (Addr × Obj)), sb.lookup c = some true → X.mg c = some (.ref D) → Zc (.ref D) none oe → (∃ vs, oe.data = .fields vs) → BX (X.suite a ((a, oe) :: pn)) raw (fun _ _ _ _ => False) (b₀ :: suite) (s c)) :
    SX X raw W (.Try body [.ExceptHandler (some (.Name x np)) none (b₀ :: suite) pos'] [] [] pos) (dTryOn sb b s) := by
  refine PS.imp (ps_try_only (ts := fun a cls d Dn σ H => ∃ c D, cls = .ref D ∧ d = none ∧ X.mg c = some (.ref D) ∧ sb.lookup c = some true ∧ tS X.K X.mg raw (fun _ _ _ _ => False) (s c) Dn σ H) (tb := fun W' => tS X.K X.mg raw W' b) hs hf hc tk hb
    (fun a oe cls d pn hz hd => ⟨fun pins t σ H Dn I ⟨c, D, e1, e2, g, q, h⟩ => by subst e1; subst e2; exact (hsu c D a oe pn q g hz hd).run pins t σ H Dn I h⟩)) fun σ H Dn ⟨ρ, env, S, e, sr, h⟩ => ?_
  refine ⟨ρ, env, S, e, sr, ?_⟩
  unfold dTryOn at h
  cases q : b env S with
  | nx e1 S1 => rw [q] at h; exact h
  | rt d S1 => rw [q] at h; exact h
  | bk e1 S1 => rw [q] at h; exact h
  | ct e1 S1 => rw [q] at h; exact h
  | err => rw [q] at h; exact h
  | exc c e1 S1 =>
    rw [q] at h
    dsimp only at h
    intro D σ' ρ' H' g st sr' er
    cases qs : sb.lookup c with
    | none => rw [qs] at h; exact h.elim
    | some bb =>
      rw [qs] at h
      refine ⟨bb, hx c bb D qs g, fun hbb a ha => ?_, fun hbb => ?_⟩
      · subst hbb
        dsimp only at h
        refine ⟨c, D, rfl, rfl, g, qs, ρ', _, S1, er, sr', ?_⟩
        cases qq : s c e1 S1 with
        | nx e2 S2 => rw [qq] at h; exact fun σ2 ρ2 H2 st2 s2 er2 => h _ ρ2 H2 (st.trans st2) s2 er2
        | rt d S2 => rw [qq] at h; exact fun v ρ2 H2 st2 s2 r2 => h v ρ2 H2 (st.trans st2) s2 r2
        | bk e2 S2 => rw [qq] at h; exact fun σ2 ρ2 H2 st2 s2 er2 => h _ ρ2 H2 (st.trans st2) s2 er2
        | ct e2 S2 => rw [qq] at h; exact fun σ2 ρ2 H2 st2 s2 er2 => h _ ρ2 H2 (st.trans st2) s2 er2
        | exc c2 e2 S2 => rw [qq] at h; exact h.elim
        | err => rw [qq] at h; exact h.elim
      · subst hbb
        exact h D σ' ρ' H' g st sr' er
end

/-! ### isinstance(e, C), e the exception held -/
def dIsE (tab : List (Str × Bool)) (c : Str) : DE := fun _ S => match tab.lookup c with
  | some b => .ok (.bl b) S
  | none => .err
theorem clsV_ty {n : String} : ∀ u, RelV (.ty n) u → u = .type n := fun _ h => h
theorem clsV_ref {C : Addr} : ∀ u, RelV (.ref C) u → u = .ref C := fun _ h => h
section
variable {X : Cx} {raw : List (Nat × V)} {W : WX} {x n c : Str} {D a : Addr} {oe : Obj} {pn : List (Addr × Obj)} {i : Nat} {p p1 p2 pos : Pos} {cv : V} {C : Value} {tab : List (Str × Bool)}
theorem ex_isE (EC : ExcC X.K D) (hz : Zc (.ref D) none oe) (hd : ∃ vs, oe.data = .fields vs) (gD : X.mg c = some (.ref D)) (T : KitT X.K X.mg tab C) (hcv : ∀ u, RelV cv u → u = C)
    (hcl : PE (X.suite a ((a, oe) :: pn)) (.Name x p2) (tC cv))
    (hg : Gl (X.suite a ((a, oe) :: pn)) "isinstance") (hm : (X.suite a ((a, oe) :: pn)).mg "isinstance" = none) (hN : (X.suite a ((a, oe) :: pn)).N[i]? = some n)
    (hv : Vis (X.suite a ((a, oe) :: pn)).env.scope n) (hdb : (n == ("__debug__" : Str)) = false := by decide) (hcd : (n == ("__classdict__" : Str)) = false := by decide)
    (hs : starEach [Expr.Name n p1, .Name x p2] (X.suite a ((a, oe) :: pn)).env = (false, eval (Expr.Name n p1) (X.suite a ((a, oe) :: pn)).env) :: starEach [.Name x p2] (X.suite a ((a, oe) :: pn)).env := by rfl) (hpl : (backTo pos (starEach [.Name x p2] (X.suite a ((a, oe) :: pn)).env)).any (·.1) = false := by rfl) :
    EX (X.suite a ((a, oe) :: pn)) ((i, .ref a) :: raw) W (.Call (.Name "isinstance" p) [.Name n p1, .Name x p2] [] pos) (dIsE tab c) := by
  refine PE.imp (pe_callB (call_isE EC hz hd) hg hm (by decide +kernel) (pa_cons (pe_var hN hv hdb hcd) (pa_cons hcl pa_nil) hs) (he := hs) (hpl := hpl)) fun σ H Q ⟨ρ, env, S, e, s, h⟩ => ?_
  unfold dIsE at h
  cases q : tab.lookup c with
  | none => simp only [q] at h; exact h.elim
  | some b =>
    simp only [q] at h
    exact ⟨.ref a, e.raw _ List.mem_cons_self, cv, C, b, rfl, hcv, T c b D q gD, post_val h s (.bl _)⟩
/-- isinstance(e, (C1, C2, ..)) -/
def rIsET (K : Fg) (D a : Addr) : List V → Hp → VK → Prop := fun xs H Q => ∃ (tp : Addr) (cs : List V) (us : List Value) (b : Bool), xs = [.ref a, .ref tp] ∧ H tp = some (.tup cs) ∧ Paired (fun v C => ∀ u, RelV v u → u = C) cs us ∧ PySem.W.kitAny K (.ref D) us = some b ∧ Q (.bl b) H
theorem paired_all : ∀ {cs : List V} {us ws : List Value}, Paired (fun v C => ∀ u, RelV v u → u = C) cs us → Vals cs ws → ws = us
  | _, _, _, .nil, .nil => rfl
  | _, _, _, .cons c k, .cons r t => by rw [c _ r, paired_all k t]
theorem call_isET (EC : ExcC X.K D) (hz : Zc (.ref D) none oe) (hf : ∃ vs, oe.data = .fields vs) : CallR (X.suite a ((a, oe) :: pn)) (.builtin "isinstance") (rIsET X.K D a) := by
  intro pins s σ H xs us Q I r h
  obtain ⟨tp, cs, ws, b, rfl, hT, k, e, q⟩ := h
  cases r with
  | cons rx rr =>
    cases rr with
    | cons rt rr =>
      cases rr
      cases rx
      cases rt
      obtain ⟨hget, _⟩ := I.pin (a, oe) (List.mem_append.mpr (.inl List.mem_cons_self))
      obtain ⟨vs, hv⟩ := hf
      have J : PySem.W.InstAt s.heap a oe D none := by
        obtain ⟨oc, od, oda, osl⟩ := oe
        obtain ⟨h1, h2⟩ := hz
        dsimp only at h1 h2 hv
        subst h1 h2 hv
        exact ⟨hget, rfl, rfl, trivial⟩
      obtain ⟨_, its, rv, o, h1, h2, n, h3⟩ := (show ObjOk X.prog X.w H s.heap tp (.tup cs) from I.hok tp _ hT)
      have e3 := paired_all k rv
      subst e3
      obtain ⟨oc, od, dt, sl⟩ := o
      simp only at h2 h3
      subst h2 h3
      exact PySem.W.kia_tup (PySem.W.handS_kitx_exc EC.hg EC.hk EC.hs EC.hd EC.ha EC.hn EC.ht EC.hm) I.kIn J h1 e (fun z => nomatch z) fun tk => ⟨.bl b, H, I.kept (t' := tk) fun _ _ z => z, rfl, q⟩
def tCs (vs : List V) : TA := fun _ H Q => Q vs H
theorem pa_cs0 {X : Cx} : PA X [] (tCs []) := pa_nil
theorem pa_cs1 {X : Cx} {e : Expr} {es : List Expr} {v : V} {vs : List V} (h : PE X e (tC v)) (r : PA X es (tCs vs)) (hs : starEach (e :: es) X.env = (false, eval e X.env) :: starEach es X.env := by rfl) : PA X (e :: es) (tCs (v :: vs)) := pa_cons h r hs
/-- tables of several classes: or -/
def orT : List (List (Str × Bool)) → Str → Option Bool
  | [], _ => some false
  | t :: r, c => match t.lookup c with
    | some true => some true
    | some false => orT r c
    | none => none
def dIsET (tabs : List (List (Str × Bool))) (c : Str) : DE := fun _ S => match orT tabs c with
  | some b => .ok (.bl b) S
  | none => .err
inductive KitTs (K : Fg) (mg : Mg) : List (List (Str × Bool)) → List V → List Value → Prop
  | nil : KitTs K mg [] [] []
  | cons {t : List (Str × Bool)} {ts : List (List (Str × Bool))} {v : V} {vs : List V} {C : Value} {Cs : List Value} : (∀ u, RelV v u → u = C) → KitT K mg t C → KitTs K mg ts vs Cs → KitTs K mg (t :: ts) (v :: vs) (C :: Cs)
theorem KitTs.pd {K : Fg} {mg : Mg} : ∀ {ts : List (List (Str × Bool))} {vs : List V} {Cs : List Value}, KitTs K mg ts vs Cs → Paired (fun v C => ∀ u, RelV v u → u = C) vs Cs
  | _, _, _, .nil => .nil
  | _, _, _, .cons h _ r => .cons h r.pd
theorem KitTs.any {K : Fg} {mg : Mg} (g : mg c = some (.ref D)) : ∀ {ts : List (List (Str × Bool))} {vs : List V} {Cs : List Value} {b : Bool}, KitTs K mg ts vs Cs → orT ts c = some b → PySem.W.kitAny K (.ref D) Cs = some b
  | _, _, _, _, .nil, h => h
  | _, _, _, b, .cons (t := t) _ k r, h => by
    unfold orT at h
    cases q : t.lookup c with
    | none => rw [q] at h; cases h
    | some bb =>
      rw [q] at h
      cases bb with
      | true => cases h; exact kitAny_cons (k c true D q g) (fun z => nomatch z) fun _ => rfl
      | false => exact kitAny_cons (k c false D q g) (fun _ => r.any g h) fun z => nomatch z
theorem ex_isET {es : List Expr} {x1 : Nat} {cs : List V} {Cs : List Value} {tabs : List (List (Str × Bool))} (EC : ExcC X.K D) (hz : Zc (.ref D) none oe) (hd : ∃ vs, oe.data = .fields vs) (gD : X.mg c = some (.ref D)) (T : KitTs X.K X.mg tabs cs Cs)
    (hl : decide (cs.length ≤ 100) = true)
    (hcl : PA (X.suite a ((a, oe) :: pn)) es (tCs cs))
    (hg : Gl (X.suite a ((a, oe) :: pn)) "isinstance") (hm : (X.suite a ((a, oe) :: pn)).mg "isinstance" = none) (hN : (X.suite a ((a, oe) :: pn)).N[i]? = some n)
    (hv : Vis (X.suite a ((a, oe) :: pn)).env.scope n) (hdb : (n == ("__debug__" : Str)) = false := by decide) (hcd : (n == ("__classdict__" : Str)) = false := by decide)
    (hs : starEach [Expr.Name n p1, .Tuple es x1 p2] (X.suite a ((a, oe) :: pn)).env = (false, eval (Expr.Name n p1) (X.suite a ((a, oe) :: pn)).env) :: starEach [.Tuple es x1 p2] (X.suite a ((a, oe) :: pn)).env := by rfl) (hpl : (backTo pos (starEach [.Tuple es x1 p2] (X.suite a ((a, oe) :: pn)).env)).any (·.1) = false := by rfl) :
    EX (X.suite a ((a, oe) :: pn)) ((i, .ref a) :: raw) W (.Call (.Name "isinstance" p) [.Name n p1, .Tuple es x1 p2] [] pos) (dIsET tabs c) := by
  refine PE.imp (pe_callB (call_isET EC hz hd) hg hm (by decide +kernel) (pa_cons (pe_var hN hv hdb hcd) (pa_cons (pe_tup hcl) pa_nil) hs) (he := hs) (hpl := hpl)) fun σ H Q ⟨ρ, env, S, e, s, h⟩ => ?_
  unfold dIsET at h
  cases q : orT tabs c with
  | none => simp only [q] at h; exact h.elim
  | some b =>
    simp only [q] at h
    refine ⟨.ref a, e.raw _ List.mem_cons_self, by have := of_decide_eq_true hl; rw [lim_eq]; unfold lim; omega, fun tp hp => ⟨tp, cs, Cs, b, rfl, upd_same, T.pd, T.any gD q, ?_⟩⟩
    exact h _ ρ _ (stp_val hp) (s.val hp) (.bl _)
end
end RL

namespace RL
open PySem PySem.Spec PyProof.Rows L2

/-! ### sorted(x) -/
def srcL (x : D) (S : Sto) : Option (List D) := match x with
  | .tup ds => some ds
  | .scr ds => some ds
  | .ref n => match S[n]? with
    | some (.lst ds) => some ds
    | some (.dict kvs) => some (kvs.map (·.1))
    | some (.fd kvs) => some (kvs.map (·.1))
    | _ => none
  | _ => none
def isTup1 : PyData → Bool
  | .tuple (_ :: _) => true
  | _ => false
def notTN : PyData → Bool
  | .none => false
  | .tuple _ => false
  | _ => true
def sortableB (ps : List PyData) : Bool := ps.all isTup1 || ps.all notTN
noncomputable def sortZ (ds : List D) (ps : List PyData) : List (D × PyData) := (ds.zip ps).mergeSort (PySem.W.dataLe false (fun b : D × PyData => b.2))
noncomputable def sortP (S : Sto) (ds : List D) : Option (List D) := match ds.mapM (toP S 24) with
  | some ps => if (ps.all fun p => ps.all fun q => PySem.W.alike p q) = true ∧ sortableB ps = true ∧ ds.length ≤ lim then some ((sortZ ds ps).map (·.1)) else none
  | none => none
noncomputable def gSorted : GA := fun xs S => match xs with
  | [x] => match (srcL x S).bind (sortP S) with
    | some es => .ok (.ref S.length) (S ++ [.lst es])
    | none => .err
  | _ => .err
def rSo (K : Fg) (mg : Mg) : List V → Hp → VK → Prop := fun xs H Q => ∃ x ρ d ds es S, xs = [x] ∧ Rep K ρ H x d ∧ SR K mg ρ H S ∧ srcL d S = some ds ∧ sortP S ds = some es ∧ ∀ p vs, H p = none → RepL K ρ H vs es → Q (.ref p) (upd H p (.lst vs))
theorem okSorted {K : Fg} {mg : Mg} : OkA K mg (rSo K mg) gSorted := by
  intro W ρ H σ S xs ds Q s r h
  unfold gSorted at h
  split at h
  · cases r with
    | cons r t =>
      cases t
      split at h
      · rename_i es e
        obtain ⟨cs, e1, e2⟩ := Option.bind_eq_some_iff.mp e
        exact ⟨_, ρ, _, cs, es, S, rfl, r, s, e1, e2, fun p vs hp rl => post_lst h s rl p hp⟩
      · exact h.elim
  · exact h.elim
theorem RepL.zip_each {K : Fg} {ρ : List Addr} {H : Hp} {S : Sto} : ∀ {us : List Value} {vs : List V} {ds : List D} {ps : List PyData}, Vals vs us → RepL K ρ H vs ds → Paired (fun a b => toP S 24 a = some b) ds ps →
    PySem.W.EachIs (fun (u : Value) (b : D × PyData) => ∃ v, RelV v u ∧ Rep K ρ H v b.1 ∧ toP S 24 b.1 = some b.2) us (ds.zip ps)
  | _, _, _, _, .nil, .nil, .nil => .nil
  | _, _, _, _, .cons a r, .cons b t, .cons c q => .cons ⟨_, a, b, c⟩ (RepL.zip_each r t q)
theorem RepL.of_each {K : Fg} {ρ : List Addr} {H : Hp} {S : Sto} : ∀ {us : List Value} {bs : List (D × PyData)}, PySem.W.EachIs (fun (u : Value) (b : D × PyData) => ∃ v, RelV v u ∧ Rep K ρ H v b.1 ∧ toP S 24 b.1 = some b.2) us bs →
    ∃ vs, Vals vs us ∧ RepL K ρ H vs (bs.map (·.1))
  | _, _, .nil => ⟨[], .nil, .nil⟩
  | _, _, .cons ⟨v, a, b, _⟩ r => let ⟨vs, p, q⟩ := RepL.of_each r; ⟨v :: vs, .cons a p, .cons b q⟩
theorem paired_zip_snd {S : Sto} : ∀ {ds : List D} {ps : List PyData}, Paired (fun a b => toP S 24 a = some b) ds ps → (ds.zip ps).map (·.2) = ps ∧ ds.length = ps.length ∧ ∀ b ∈ ds.zip ps, toP S 24 b.1 = some b.2
  | _, _, .nil => ⟨rfl, rfl, fun _ h => nomatch h⟩
  | _, _, .cons c q => by
    obtain ⟨h1, h2, h3⟩ := paired_zip_snd q
    refine ⟨by simp [h1], by simp [h2], fun b hb => ?_⟩
    rcases List.mem_cons.mp hb with rfl | hb
    · exact c
    · exact h3 b hb
theorem sortable_is {ps : List PyData} (h : sortableB ps = true) : PySem.W.Sortable ps := by
  unfold sortableB at h
  rcases Bool.or_eq_true_iff.mp h with h | h
  · refine .inl fun d hd => ?_
    have := List.all_eq_true.mp h d hd
    unfold isTup1 at this
    split at this
    · exact ⟨_, _, rfl⟩
    · cases this
  · refine .inr fun d hd => ?_
    have := List.all_eq_true.mp h d hd
    unfold notTN at this
    split at this
    · cases this
    · cases this
    · rename_i h1 h2; exact ⟨h1, h2⟩
section
variable {X : Cx} {pins : List (Addr × Obj)} {σ : L2.St} {H : Hp} {s : Shared}
/-- what is behind the gathering -/
theorem sorted_rest {ρ : List Addr} {S : Sto} {h' : Heap} {tk : Nat} {us : List Value} {vs : List V} {ds es : List D} {Q : VK} (hu : X.A.units + 64 < cLine) (I : Inv X pins σ H s) (k : ∀ b o, s.heap.get? b = some o → h'.get? b = some o)
    (sr : SR X.K X.mg ρ H S) (rv : Vals vs us) (rl : RepL X.K ρ H vs ds) (hs : sortP S ds = some es) (q : ∀ p vs, H p = none → RepL X.K ρ H vs es → Q (.ref p) (upd H p (.lst vs))) {T : Fin → Shared → Prop} {E : Value → Shared → Prop}
    (hT : ∀ s', EP X pins σ Q (.ref h'.objs.size) s' → T (.done (.ret (.ref h'.objs.size))) s') :
    wpAny (model X.prog X.w) X.A.in1 (do let l ← newList us; let _ ← holding [l] (call (.builtin "list.sort") [l]); ret l) T E { s with heap := h', toks := tk } := by
  unfold sortP at hs
  split at hs
  · rename_i ps eps
    split at hs
    · rename_i hc
      obtain ⟨hal, hso, hlen⟩ := hc
      cases hs
      have hp := mapM_some eps
      obtain ⟨hz1, hz2, hz3⟩ := paired_zip_snd hp
      have hl := rl.length
      have hl2 := rv.length
      have I1 : Inv X pins σ H { s with heap := h', toks := tk } := I.kept (t' := tk) k
      have e := RepL.zip_each rv rl hp
      have hsz : us.length ≤ sizeLine := by rw [lim_eq]; omega
      refine wpAny_bind (wpAny_newList ?_ hsz)
      have hoL : (h'.push (seqObj "list" us.toArray 0)).get? h'.objs.size = some (seqObj "list" us.toArray 0) := Heap.get?_push_size _ rfl
      show wpAny _ _ _ _ _ { s with heap := h'.push (seqObj "list" us.toArray 0), toks := tk }
      have er : PySem.W.EachIs (fun v (b : D × PyData) => ∃ as, Reads (PySem.W.sortingHeap (h'.push (seqObj "list" us.toArray 0)) h'.objs.size us) v b.2 as) us (ds.zip ps) := by
        refine e.mono fun u b ⟨v, a, r, tp⟩ => ?_
        obtain ⟨as, rd⟩ := Dp.reads I1 b.2 v u (dp_of sr _ _ _ _ r tp) a
        refine ⟨as, PyProof.Rows.Reads.keeps (fun b o hb => ?_) rd⟩
        have hlt : b < h'.objs.size := Heap.lt_size hb
        exact PySem.W.sortingHeap_old (Nat.ne_of_lt hlt) (Heap.get?_push_of_some _ hb)
      have hal' : PySem.W.AllAlike ((ds.zip ps).map (·.2)) := by
        rw [hz1]
        intro d hd d' hd'
        exact List.all_eq_true.mp (List.all_eq_true.mp hal d hd) d' hd'
      have hso' : PySem.W.Sortable ((ds.zip ps).map (·.2)) := by rw [hz1]; exact sortable_is hso
      have hdep : ∀ b ∈ ds.zip ps, X.A.in1.units + 1 + b.2.depth < cLine := by
        intro b hb
        have := (toP_lay _ _ _ (hz3 b hb)).2
        show X.A.units + 1 + 1 + _ < _
        omega
      refine wpAny_bind (wpAny_holding (wpAny_call_entry PyProof.Rows.slot_list_sort ⟨_, hoL, rfl⟩ PyProof.Rows.entry_list_sort
        (PySem.W.list_sort_vals (κ := PySem.W.dataKind (PySem.W.sortingHeap (h'.push (seqObj "list" us.toArray 0)) h'.objs.size us) ((ds.zip ps).map (·.2))) hoL
          (PySem.W.SortsAt.data (s := { s with heap := PySem.W.sortingHeap (h'.push (seqObj "list" us.toArray 0)) h'.objs.size us, toks := tk }) (PySem.W.each_map (R := fun v d => ∃ as, Reads (PySem.W.sortingHeap (h'.push (seqObj "list" us.toArray 0)) h'.objs.size us) v d as) (fun b : D × PyData => b.2) er) hal' hso' (PySem.W.bound_map hdep)) hsz ⟨.none, rfl, ?_⟩) (PyProof.Rows.args_list_sort _)))
      have eo := PySem.W.sortVals_data (h' := PySem.W.sortingHeap (h'.push (seqObj "list" us.toArray 0)) h'.objs.size us) false e er hal'
      obtain ⟨ws, rw1, rw2⟩ := RepL.of_each eo
      obtain ⟨e', he'⟩ := PyProof.Rows.sortedHeap_at (vs := us) (out := (PySem.W.sortVals (PySem.W.dataKind (PySem.W.sortingHeap (h'.push (seqObj "list" us.toArray 0)) h'.objs.size us) ((ds.zip ps).map (·.2))) false us us).toArray) hoL
      have hl3 : ws.length ≤ sizeLine := by
        rw [rw1.length, PySem.W.sortVals_length false rfl]; exact hsz
      refine wpAny_pure (hT _ ⟨.ref h'.objs.size, upd H h'.objs.size (.lst ws), I1.laid (t' := tk) (fun b u e => ?_) (Nat.le_refl _)
        (show ObjOk X.prog X.w _ _ _ (.lst ws) from ⟨hl3, _, e', rw1, he'⟩), rfl, q _ ws (I1.hok.fresh (Nat.le_refl _)) rw2⟩)
      have hb : b < h'.objs.size := Heap.lt_size e
      rw [PyProof.Rows.sortedHeap_old (Nat.ne_of_lt hb) (by rw [size_push']; exact Nat.lt_succ_of_lt hb)]
      exact Heap.get?_push_of_some _ e
    · cases hs
  · cases hs
end
theorem keys_vals : ∀ {us : List Value} {ks : List (Key × V)}, us.length = ks.length → (∀ (j : Nat) (v : Value), us[j]? = some v → ∃ k, (ks.map (·.1))[j]? = some k ∧ keyIs k v = true) → Vals (ks.map fun kv => kV kv.1) us
  | [], [], _, _ => .nil
  | u :: us, k :: ks, hl, h => by
    obtain ⟨k', e1, e2⟩ := h 0 u rfl
    have e1' : k.1 = k' := Option.some.inj e1
    subst e1'
    refine .cons ?_ (keys_vals (by simpa using hl) fun j v e => by simpa using h (j + 1) v (by simpa using e))
    rcases keyIs_shape e2 with ⟨i, t, ek, ev⟩ | ⟨z, t, ek, ev⟩
    · show RelV (kV k.1) u
      rw [ek, ev]; exact ⟨t, rfl⟩
    · show RelV (kV k.1) u
      rw [ek, ev]; exact ⟨t, rfl⟩
  | [], _ :: _, hl, _ => by simp at hl
  | _ :: _, [], hl, _ => by simp at hl
theorem keys_rep {K : Fg} {ρ : List Addr} {H : Hp} : ∀ {ks : List (Key × V)} {kvs : List (D × D)}, RepKV K ρ H ks kvs → RepL K ρ H (ks.map fun kv => kV kv.1) (kvs.map (·.1))
  | _, _, .nil => .nil
  | _, _, .cons (k := k) r t => .cons (match k with | .inl i => .int i | .inr x => .str x) (keys_rep t)
section
variable {X : Cx}
theorem call_sortedX (hc : X.calm = true) (hu : X.A.units + 64 < cLine) : CallR X (.builtin "sorted") (rSo X.K X.mg) := by
  intro pins s σ H xs us Q I r h
  obtain ⟨x, ρ, d, ds, es, S, rfl, rd, sr, e1, e2, q⟩ := h
  obtain ⟨u, rfl, rx⟩ := vals1 r
  refine Calls.call_function_entry PyProof.Rows.kind_sorted PyProof.Rows.plain_sorted PyProof.Rows.entry_sorted (PyProof.Rows.args_sorted1 _) ?_
  unfold Builtin.«sorted»
  refine wpAny_bind (m := checkCount "sorted" 1 1 _) (wpAny_pure ?_)
  cases rd with
  | tup hq l =>
    cases rx
    cases e1
    obtain ⟨its, rv, ⟨o, h1, h2, n, h3⟩, hz⟩ := I.tuple hq
    refine wpAny_bind (wpAny_collect_seq _ (.inr rfl) h1 h2 h3 (fun h' k => ?_) (by rw [List.size_toArray, ← rv.length]; exact hz))
    exact sorted_rest (h' := h') (tk := s.toks) hu I k sr (by simpa using rv) l e2 q fun s' z => ⟨_, rfl, z⟩
  | scr hq l =>
    cases rx
    cases e1
    obtain ⟨its, rv, ⟨o, n, h1, h2, h3⟩, hz⟩ := I.list hq.sq
    refine wpAny_bind (wpAny_collect_seq _ (.inl rfl) h1 h2 h3.2 (fun h' k => ?_) (by rw [List.size_toArray, ← rv.length]; exact hz))
    exact sorted_rest (h' := h') (tk := s.toks) hu I k sr (by simpa using rv) l e2 q fun s' z => ⟨_, rfl, z⟩
  | ref hn =>
    cases rx
    unfold srcL at e1
    dsimp only at e1
    split at e1
    · rename_i ds' hS
      cases e1
      obtain ⟨xs, hx, l⟩ := sr.ob _ _ _ hS hn
      obtain ⟨its, rv, ⟨o, n, h1, h2, h3⟩, hz⟩ := I.list (.of hx)
      refine wpAny_bind (wpAny_collect_seq _ (.inl rfl) h1 h2 h3.2 (fun h' k => ?_) (by rw [List.size_toArray, ← rv.length]; exact hz))
      exact sorted_rest (h' := h') (tk := s.toks) hu I k sr (by simpa using rv) l e2 q fun s' z => ⟨_, rfl, z⟩
    · rename_i kvs hS
      cases e1
      obtain ⟨ks, hx, l⟩ := sr.ob _ _ _ hS hn
      obtain ⟨z, lo, vs, rel, dd⟩ := dk_rd I.hok (.of hx)
      obtain ⟨ep, hat⟩ := dd.dictAt
      have hkeys : vs.map (·.1) = ks.map (·.1) := rel.keys.symm
      have hl : vs.length = ks.length := by
        have e := congrArg List.length hkeys
        rw [List.length_map, List.length_map] at e
        exact e
      refine wpAny_bind (PySem.W.kdu_collect (A := X.A.in1) (PySem.W.kdl_dict (knd := mixKind X.prog X.w) (kvs := vs) (ep := ep) lo) (I.ok.hd hc) hat (by rw [hl]; exact z) fun h' tk acc hk hacc => ?_)
      have rv : Vals (ks.map fun kv => kV kv.1) acc.toList := keys_vals (by rw [Array.length_toList, hacc.1, hl]) fun j v e => by
        obtain ⟨k, x, e1, e2⟩ := hacc.2 j v (by rw [← Array.getElem?_toList]; exact e)
        exact ⟨k, by rw [← hkeys, List.getElem?_map, e1]; rfl, e2⟩
      exact sorted_rest (h' := h') (tk := tk) hu I hk sr rv (keys_rep l) e2 q fun s' z => ⟨_, rfl, z⟩
    · rename_i kvs hS
      cases e1
      obtain ⟨ks, ob, hx, l⟩ := sr.ob _ _ _ hS hn
      obtain ⟨z, lo, vs, rel, dd⟩ := dk_rd I.hok (.inr ⟨ob, hx⟩)
      obtain ⟨ep, hat⟩ := dd.dictAt
      have hkeys : vs.map (·.1) = ks.map (·.1) := rel.keys.symm
      have hl : vs.length = ks.length := by
        have e := congrArg List.length hkeys
        rw [List.length_map, List.length_map] at e
        exact e
      refine wpAny_bind (PySem.W.kdu_collect (A := X.A.in1) (PySem.W.kdl_dict (knd := mixKind X.prog X.w) (kvs := vs) (ep := ep) lo) (I.ok.hd hc) hat (by rw [hl]; exact z) fun h' tk acc hk hacc => ?_)
      have rv : Vals (ks.map fun kv => kV kv.1) acc.toList := keys_vals (by rw [Array.length_toList, hacc.1, hl]) fun j v e => by
        obtain ⟨k, x, e1, e2⟩ := hacc.2 j v (by rw [← Array.getElem?_toList]; exact e)
        exact ⟨k, by rw [← hkeys, List.getElem?_map, e1]; rfl, e2⟩
      exact sorted_rest (h' := h') (tk := tk) hu I hk sr rv (keys_rep l) e2 q fun s' z => ⟨_, rfl, z⟩
    · cases e1
  | non => cases e1
  | bl => cases e1
  | int => cases e1
  | str => cases e1
end
end RL

namespace RL
open PySem PySem.Spec PyProof.Rows L2

/-! ### zip of two tuples, or of two lists -/
def zipD (xs ys : List D) : List D := (xs.zip ys).map fun p => .tup [p.1, p.2]
def lstG (x : D) (S : Sto) : Option (List D × List (Nat × O)) := match x with
  | .scr ds => some (ds, [])
  | .ref n => match S[n]? with
    | some (.lst ds) => some (ds, [(n, .lst ds)])
    | _ => none
  | _ => none
def zipOf (xs : List D) (S : Sto) : R ItD := match xs with
  | [.tup a, .tup b] => .ok ⟨zipD a b, []⟩ S
  | [x, y] => match lstG x S, lstG y S with
    | some (a, g), some (b, g') => .ok ⟨zipD a b, g ++ g'⟩ S
    | _, _ => .err
  | _ => .err
def dZip (fs : DA) : DI := fun env S => (fs env S).bind zipOf
theorem grd_app {g g' : List (Nat × O)} {S : Sto} (h : Grd (g ++ g') S) : Grd g S ∧ Grd g' S := ⟨fun p hp => h p (List.mem_append_left _ hp), fun p hp => h p (List.mem_append_right _ hp)⟩
section
variable {K : Fg} {mg : Mg} {ρ : List Addr} {H : Hp}
theorem zipD_at {xs ys : List D} {i : Nat} {x y : D} (h1 : xs[i]? = some x) (h2 : ys[i]? = some y) : (zipD xs ys)[i]? = some (.tup [x, y]) := by
  unfold zipD
  rw [List.getElem?_map, (List.getElem?_zip_eq_some (z := (x, y))).mpr ⟨h1, h2⟩]
  rfl
theorem zipD_len {xs ys : List D} : (zipD xs ys).length = min xs.length ys.length := by unfold zipD; simp
theorem wk_zipT {a b : Addr} {xs ys : List V} {ds es : List D} (ha : SqT K H a xs) (la : RepL K ρ H xs ds) (hb : SqT K H b ys) (lb : RepL K ρ H ys es) : Wk K mg (RZ.ItzT K a b) ρ H ⟨zipD ds es, []⟩ where
  go := fun i H' ρ' S hi st s g => by
    rw [zipD_len] at hi
    exact ⟨xs, ys, xs[i]'(by rw [la.length]; omega), ys[i]'(by rw [lb.length]; omega), st.sqT ha, st.sqT hb, by simp, by simp⟩
  stop := fun i H' ρ' S hi st s g => by
    rw [zipD_len] at hi
    exact ⟨xs, ys, st.sqT ha, st.sqT hb, by rw [la.length, lb.length]; omega⟩
  yld := fun i H' ρ' S v H2 hi st s g ⟨T, x, y, e1, e2, e3, e4, e5⟩ => by
    rw [zipD_len] at hi
    subst e1; subst e3
    have hx := e4 xs (st.sqT ha)
    have hy := e5 ys (st.sqT hb)
    have hi1 : i < ds.length := by omega
    have hi2 : i < es.length := by omega
    obtain ⟨v1, q1, r1⟩ := la.get (List.getElem?_eq_getElem hi1)
    obtain ⟨v2, q2, r2⟩ := lb.get (List.getElem?_eq_getElem hi2)
    rw [hx] at q1; cases q1
    rw [hy] at q2; cases q2
    exact ⟨_, zipD_at (List.getElem?_eq_getElem hi1) (List.getElem?_eq_getElem hi2), .tup (.of upd_same) (.cons ((r1.mono st).mono (stp_val e2)) (.cons ((r2.mono st).mono (stp_val e2)) .nil)), stp_val e2, s.val e2⟩
/-- a list as it stands now -/
def LsG (K : Fg) (mg : Mg) (ρ : List Addr) (H : Hp) (a : Addr) (ds : List D) (g : List (Nat × O)) : Prop := ∀ ρ' H' S, Stp ρ H ρ' H' → SR K mg ρ' H' S → Grd g S → ∃ xs, SqL K H' a xs ∧ RepL K ρ' H' xs ds
theorem lstG_is {S : Sto} {x : D} {v : V} {ds : List D} {g : List (Nat × O)} (r : Rep K ρ H v x) (h : lstG x S = some (ds, g)) : ∃ a, v = .ref a ∧ LsG K mg ρ H a ds g := by
  unfold lstG at h
  cases r with
  | scr hq l => cases h; exact ⟨_, rfl, fun ρ' H' S' st s gg => ⟨_, (st.fz hq).sq, l.mono st⟩⟩
  | ref hn =>
    dsimp only at h
    split at h
    · cases h
      refine ⟨_, rfl, fun ρ' H' S' st s gg => ?_⟩
      obtain ⟨xs, hx, l⟩ := s.ob _ _ _ (gg _ List.mem_cons_self) (st.at hn)
      exact ⟨xs, .of hx, l⟩
    · cases h
  | _ => cases h
theorem wk_zipL {a b : Addr} {ds es : List D} {g g' : List (Nat × O)} (ha : LsG K mg ρ H a ds g) (hb : LsG K mg ρ H b es g') : Wk K mg (Itz K a b) ρ H ⟨zipD ds es, g ++ g'⟩ where
  go := fun i H' ρ' S hi st s gg => by
    rw [zipD_len] at hi
    obtain ⟨xs, h1, l1⟩ := ha _ _ _ st s (grd_app gg).1
    obtain ⟨ys, h2, l2⟩ := hb _ _ _ st s (grd_app gg).2
    exact ⟨xs, ys, xs[i]'(by rw [l1.length]; omega), ys[i]'(by rw [l2.length]; omega), h1, h2, by simp, by simp⟩
  stop := fun i H' ρ' S hi st s gg => by
    rw [zipD_len] at hi
    obtain ⟨xs, h1, l1⟩ := ha _ _ _ st s (grd_app gg).1
    obtain ⟨ys, h2, l2⟩ := hb _ _ _ st s (grd_app gg).2
    exact ⟨xs, ys, h1, h2, by rw [l1.length, l2.length]; omega⟩
  yld := fun i H' ρ' S v H2 hi st s gg ⟨T, x, y, e1, e2, e3, e4, e5⟩ => by
    rw [zipD_len] at hi
    obtain ⟨xs, h1, l1⟩ := ha _ _ _ st s (grd_app gg).1
    obtain ⟨ys, h2, l2⟩ := hb _ _ _ st s (grd_app gg).2
    subst e1; subst e3
    have hx := e4 xs h1
    have hy := e5 ys h2
    have hi1 : i < ds.length := by omega
    have hi2 : i < es.length := by omega
    obtain ⟨v1, q1, r1⟩ := l1.get (List.getElem?_eq_getElem hi1)
    obtain ⟨v2, q2, r2⟩ := l2.get (List.getElem?_eq_getElem hi2)
    rw [hx] at q1; cases q1
    rw [hy] at q2; cases q2
    exact ⟨_, zipD_at (List.getElem?_eq_getElem hi1) (List.getElem?_eq_getElem hi2), .tup (.of upd_same) (.cons (r1.mono (stp_val e2)) (.cons (r2.mono (stp_val e2)) .nil)), stp_val e2, s.val e2⟩
theorem LsG.now {S : Sto} {x : D} {v : V} {ds : List D} {g : List (Nat × O)} (s : SR K mg ρ H S) (r : Rep K ρ H v x) (h : lstG x S = some (ds, g)) : ∃ a, v = .ref a ∧ LsG K mg ρ H a ds g ∧ ∃ xs, SqL K H a xs ∧ RepL K ρ H xs ds := by
  obtain ⟨a, e, q⟩ := lstG_is (mg := mg) r h
  refine ⟨a, e, q, q ρ H S (Stp.refl _ _) s ?_⟩
  unfold lstG at h
  split at h
  · cases h; exact fun _ h => nomatch h
  · split at h
    · rename_i hS
      cases h
      intro p hp
      obtain rfl := List.mem_singleton.mp hp
      exact hS
    · cases h
  · cases h
end
section
variable {X : Cx} {raw : List (Nat × V)} {W : WX} {pos p tpos : Pos} {e e2 : Expr} {elts : List Expr} {kk : Nat} {fs : DA}
theorem ix_zip (hg : Gl X "zip") (hm : X.mg "zip" = none) (ha : AX X raw W [e, e2] fs)
    (hs : starEach [e, e2] X.env = (false, eval e X.env) :: starEach [e2] X.env := by rfl) (hpl : (backTo pos (starEach [e2] X.env)).any (·.1) = false := by rfl) :
    IX X raw W (.Tuple elts kk tpos) (.Call (.Name "zip" p) [e, e2] [] pos) (dZip fs) :=
  PI.imp (RZ.pi_zipA hg hm ha hs hpl) fun σ H Q ⟨ρ, env, S, e, s, h⟩ => tG_bindI e s h fun d S1 v ρ1 H1 st e1 s1 r1 h1 => by
    unfold zipOf at h1
    split at h1
    · cases r1 with
      | cons ra t =>
        cases t with
        | cons rb t =>
          cases t
          cases ra with
          | tup ha la =>
            cases rb with
            | tup hb lb => exact ⟨_, _, _, _, rfl, .inr ⟨ha, hb, h1 _ ρ1 H1 (Stp.refl _ _) s1 (wk_zipT ha la hb lb)⟩⟩
    · cases r1 with
      | cons ra t =>
        cases t with
        | cons rb t =>
          cases t
          split at h1
          · rename_i a g b g' ea eb
            obtain ⟨x, rfl, qa, xs, ha, la⟩ := LsG.now s1 ra ea
            obtain ⟨y, rfl, qb, ys, hb, lb⟩ := LsG.now s1 rb eb
            exact ⟨_, _, _, _, rfl, .inl ⟨ha, hb, h1 _ ρ1 H1 (Stp.refl _ _) s1 (wk_zipL qa qb)⟩⟩
          · exact h1.elim
    · exact h1.elim
end

/-! ### x.pop(k), x a list or a dict -/
def dPop1 (fo : DE) (fs : DA) : DE := fun env S => match fo env S with
  | .ok (.ref n) S1 => match S1[n]? with
    | some (.lst _) => dMt "list" gPopAt fo fs env S
    | some (.dict _) => dMt "dict" gDPop fo fs env S
    | _ => .err
  | .exc c S1 => .exc c S1
  | _ => .err
section
variable {X : Cx} {raw : List (Nat × V)} {W : WX} {o e : Expr} {fo : DE} {fs : DA} {apos cpos : Pos}
theorem ex_pop1 (hu : X.A.units + 1 < cLine) (ho : EX X raw W o fo) (ha : AX X raw W [e] fs) (hL : EX X raw W (.Call (.Attribute o "pop" apos) [e] [] cpos) (dMt "list" gPopAt fo fs)) (hD : EX X raw W (.Call (.Attribute o "pop" apos) [e] [] cpos) (dMt "dict" gDPop fo fs)) :
    EX X raw W (.Call (.Attribute o "pop" apos) [e] [] cpos) (dPop1 fo fs) := ⟨fun pins t σ H Q I ⟨ρ, env, S, er, sr, h⟩ => by
  cases q : fo env S with
  | err => unfold dPop1 at h; rw [q] at h; exact h.elim
  | exc c S1 =>
    refine hL.run pins t σ H Q I ⟨ρ, env, S, er, sr, ?_⟩
    unfold dPop1 at h; rw [q] at h
    unfold dMt; rw [q]; exact h
  | ok d S1 =>
    unfold dPop1 at h
    rw [q] at h
    split at h
    · rename_i n S2 e3
      cases e3
      split at h
      · exact hL.run pins t σ H Q I ⟨ρ, env, S, er, sr, h⟩
      · exact hD.run pins t σ H Q I ⟨ρ, env, S, er, sr, h⟩
      · exact h.elim
    · rename_i e3; cases e3
    · exact h.elim⟩
end
end RL
namespace RL
open PySem PySem.Spec PyProof.Rows L2
theorem noraw1 {i j : Nat} {v : V} (h : i ≠ j) : ∀ p ∈ [(i, v)], p.1 ≠ j := fun p hp => by obtain rfl := List.mem_singleton.mp hp; exact h
def ExcTab (K : Fg) (mg : Mg) (sb : List (Str × Bool)) : Prop := ∀ (c : Str) (D : Addr) (b : Bool), sb.lookup c = some b → mg c = some (.ref D) → ExcC K D
theorem ExcTab.nil {K : Fg} {mg : Mg} : ExcTab K mg [] := fun _ _ _ h => nomatch h
theorem ExcTab.cons {K : Fg} {mg : Mg} {c : Str} {b : Bool} {sb : List (Str × Bool)} {D : Addr} (g : mg c = some (.ref D)) (h : ExcC K D) (r : ExcTab K mg sb) : ExcTab K mg ((c, b) :: sb) := fun c' D' b' q m => by
  rw [List.lookup_cons] at q
  cases e : c' == c with
  | true =>
    have e' := beq_iff_eq.mp e
    subst e'
    rw [g] at m; cases m
    exact h
  | false => rw [e] at q; exact r c' D' b' q m
theorem only1 {mg : Mg} {c : Str} {A : Addr} {p : Addr → Prop} (g : mg c = some (.ref A)) (h : p A) : ∀ C, mg c = some (.ref C) → p C := fun C e => by rw [g] at e; cases e; exact h
theorem only2 {mg : Mg} {c d : Str} {A B : Addr} {p : Addr → Addr → Prop} (g : mg c = some (.ref A)) (g' : mg d = some (.ref B)) (h : p A B) : ∀ C D, mg c = some (.ref C) → mg d = some (.ref D) → p C D := fun C D e e' => by rw [g] at e; rw [g'] at e'; cases e; cases e'; exact h
end RL
namespace RL
open PySem PySem.Spec PyProof.Rows L2
theorem blkOk_at {N N1 : List Str} {sc sc1 scope : Scope} {own : List (Str × Nat)} (hN : N = N1) (hs : sc = sc1) (h : blkC N1 sc1 scope own = true) : BlkOk N sc scope own := by
  subst hN; subst hs; exact blkOk_by h
theorem kit_refD {K : Fg} {C D : Addr} {b : Bool} (hd : PySem.W.hasDictIn K C = true) (ht : PySem.W.typeIn K (.ref C) = some (.type "type")) (h : PySem.W.subIn K (.ref D) (.ref C) = some b) (hb : D = C → b = true) : PySem.W.kitOne K (.ref D) (.ref C) = some b := by
  obtain ⟨cd, hc, _⟩ := PySem.W.any_some hd
  unfold PySem.W.kitOne
  by_cases e : D = C
  · rw [if_pos (by rw [e]; exact beq_self_eq_true _), hb e]
  · rw [if_neg (fun z => e (Value.ref.inj (beq_iff_eq.mp z)))]
    show (if ((PySem.W.clsIn K C).isSome && PySem.W.typeIn K (.ref C) == some (.type "type")) = true then PySem.W.subIn K (.ref D) (.ref C) else none) = some b
    rw [if_pos (by rw [hc, ht]; rfl)]
    exact h
theorem kit_tyD {K : Fg} {D : Addr} {T : String} {b : Bool} (hm : PySem.W.kitMeta T = true) (h : PySem.W.subIn K (.ref D) (.type T) = some b) : PySem.W.kitOne K (.ref D) (.type T) = some b := by
  unfold PySem.W.kitOne
  rw [if_neg (show ¬ ((Value.ref D == Value.type T) = true) from fun z => by cases (beq_iff_eq.mp z))]
  show (if PySem.W.kitMeta T = true then PySem.W.subIn K (.ref D) (.type T) else none) = some b
  rw [if_pos hm]; exact h
end RL

namespace RL
open PySem PySem.Spec PyProof.Rows L2

/-! ### isinstance(x, (T1, T2, ..)), built-in types -/
def gIsiA (Ts : List String) : G1 := fun x S => match tyD x S with
  | some t => .ok (.bl (Ts.any fun T => isiT t T)) S
  | none => .err
theorem kitAny_tys {K : Fg} {t : String} (ht : t ∈ ["NoneType", "bool", "int", "str", "tuple", "list", "dict"]) : ∀ {Ts : List String}, (∀ T ∈ Ts, T ∈ ["int", "bool", "str", "tuple", "list", "dict"]) → PySem.W.kitAny K (.type t) (Ts.map Value.type) = some (Ts.any fun T => isiT t T)
  | [], _ => rfl
  | T :: Ts, h => by
    have e : PySem.W.kitOne K (.type t) (.type T) = some (isiT t T) := kit_ty (kitB_is t ht T (h T List.mem_cons_self))
    have ih := kitAny_tys (K := K) ht (Ts := Ts) fun x hx => h x (List.mem_cons_of_mem _ hx)
    rw [List.map_cons, List.any_cons]
    refine kitAny_cons e (fun hb => by rw [hb, Bool.false_or]; exact ih) fun hb => by rw [hb, Bool.true_or]
theorem paired_tys : ∀ {Ts : List String}, Paired ClsV (Ts.map V.ty) (Ts.map Value.type)
  | [] => .nil
  | _ :: _ => .cons (.ty _) paired_tys
section
variable {X : Cx} {raw : List (Nat × V)} {W : WX} {p p2 pos : Pos} {a : Expr} {fa : DE} {es : List Expr} {x1 : Nat} {Ts : List String}
theorem ex_isiA (hT : ∀ T ∈ Ts, T ∈ ["int", "bool", "str", "tuple", "list", "dict"]) (hl : decide (Ts.length ≤ 100) = true) (hg : Gl X "isinstance") (hm : X.mg "isinstance" = none) (ht : PA X es (tCs (Ts.map V.ty))) (ha : EX X raw W a fa)
    (hs : starEach [a, .Tuple es x1 p2] X.env = (false, eval a X.env) :: starEach [.Tuple es x1 p2] X.env := by rfl) (hpl : (backTo pos (starEach [.Tuple es x1 p2] X.env)).any (·.1) = false := by rfl) :
    EX X raw W (.Call (.Name "isinstance" p) [a, .Tuple es x1 p2] [] pos) (dUn (gIsiA Ts) fa) := by
  refine PE.imp (pe_callB call_isiT hg hm (by decide +kernel) (pa_cons ha (pa_cons (pe_tup ht) pa_nil) hs) (he := hs) (hpl := hpl)) fun σ H Q ⟨ρ, env, S, e, s, h⟩ => ?_
  refine tG_bind e s h fun d S1 v ρ1 H1 st e1 s1 r1 h1 => ?_
  unfold gIsiA at h1
  split at h1
  · rename_i t et
    refine ⟨by have := of_decide_eq_true hl; rw [List.length_map, lim_eq]; unfold lim; omega, fun tp hp => ?_⟩
    have s2 := s1.val (o := .tup (Ts.map V.ty)) hp
    refine ⟨v, tp, Ts.map V.ty, .type t, Ts.map Value.type, _, rfl, upd_same, paired_tys, tyD_is s2 (r1.mono (stp_val hp)) et, kitAny_tys (tyD_mem et) hT, ?_⟩
    exact h1 _ ρ1 _ (stp_val hp) s2 (.bl _)
  · exact h1.elim
end

/-! ### x += n -/
def gAddI : G2 := fun x y S => match x, y with
  | .int i, .int j => .ok (.int (i + j)) S
  | _, _ => .err
theorem okAddI {K : Fg} {mg : Mg} : Ok2 K mg (rI0 fun i j => .int (i + j)) gAddI := by
  intro W ρ H σ S x y dx dy Q s rx ry h
  unfold gAddI at h
  split at h
  · cases rx; cases ry
    exact ⟨_, _, rfl, rfl, post_val h s (.int _)⟩
  · exact h.elim

/-! ### enumerate of a list -/
def enumD (xs : List D) : List D := (List.range xs.length).zipWith (fun i d => .tup [.int (i : Nat), d]) xs
def enumOf (x : D) (S : Sto) : R ItD := match lstG x S with
  | some (a, g) => .ok ⟨enumD a, g⟩ S
  | none => .err
theorem enumD_len {xs : List D} : (enumD xs).length = xs.length := by unfold enumD; simp
theorem enumD_at {xs : List D} {i : Nat} {x : D} (h : xs[i]? = some x) : (enumD xs)[i]? = some (.tup [.int (i : Nat), x]) := by
  obtain ⟨hi, rfl⟩ := List.getElem?_eq_some_iff.mp h
  unfold enumD
  rw [List.getElem?_zipWith]
  simp [hi]
theorem wk_enum {K : Fg} {mg : Mg} {ρ : List Addr} {H : Hp} {a : Addr} {ds : List D} {g : List (Nat × O)} (ha : LsG K mg ρ H a ds g) : Wk K mg (Ite K a) ρ H ⟨enumD ds, g⟩ where
  go := fun i H' ρ' S hi st s gg => by
    rw [enumD_len] at hi
    obtain ⟨xs, h1, l1⟩ := ha _ _ _ st s gg
    exact ⟨xs, xs[i]'(by rw [l1.length]; omega), h1, by simp⟩
  stop := fun i H' ρ' S hi st s gg => by
    rw [enumD_len] at hi
    obtain ⟨xs, h1, l1⟩ := ha _ _ _ st s gg
    exact ⟨xs, h1, by rw [l1.length]; omega⟩
  yld := fun i H' ρ' S v H2 hi st s gg ⟨T, x, e1, e2, e3, e4⟩ => by
    rw [enumD_len] at hi
    obtain ⟨xs, h1, l1⟩ := ha _ _ _ st s gg
    subst e1; subst e3
    have hx := e4 xs h1
    obtain ⟨v1, q1, r1⟩ := l1.get (List.getElem?_eq_getElem hi)
    rw [hx] at q1; cases q1
    exact ⟨_, enumD_at (List.getElem?_eq_getElem hi), .tup (.of upd_same) (.cons (.int _) (.cons (r1.mono (stp_val e2)) .nil)), stp_val e2, s.val e2⟩
def dEnum (fs : DA) : DI := fun env S => (fs env S).bind fun xs S1 => match xs with
  | [x] => enumOf x S1
  | _ => .err
section
variable {X : Cx} {raw : List (Nat × V)} {W : WX} {pos p tpos : Pos} {e : Expr} {elts : List Expr} {kk : Nat} {fs : DA}
theorem ix_enumL (hg : Gl X "enumerate") (hm : X.mg "enumerate" = none) (ha : AX X raw W [e] fs) (hs : starEach [e] X.env = [(false, eval e X.env)] := by rfl) :
    IX X raw W (.Tuple elts kk tpos) (.Call (.Name "enumerate" p) [e] [] pos) (dEnum fs) :=
  PI.imp (pi_enum hg hm ha hs) fun σ H Q ⟨ρ, env, S, e, s, h⟩ => tG_bindI e s h fun d S1 v ρ1 H1 st e1 s1 r1 h1 => by
    split at h1
    · cases r1 with
      | cons ra t =>
        cases t
        unfold enumOf at h1
        split at h1
        · rename_i a g ea
          obtain ⟨x, rfl, qa, xs, ha, la⟩ := LsG.now s1 ra ea
          exact ⟨_, _, rfl, ha, h1 _ ρ1 H1 (Stp.refl _ _) s1 (wk_enum qa)⟩
        · exact h1.elim
    · exact h1.elim
end
end RL

namespace RL
open PySem PySem.Spec PyProof.Rows L2

/-! ### enumerate of a tuple -/
/-- enumerate(v) of whatever an iterator begins -/
theorem one_enum {v : Value} {ob : Obj} {Hs : Heap → Prop} (B : Begins v ob Hs) :
    Meets (Builtin.«enumerate.__new__» ⟨[.type "enumerate", v], []⟩) (fun _ R s => Hs s.heap ∧ R (.ok (.ret (.ref (s.heap.push ob).objs.size)))
        { s with heap := (s.heap.push ob).push { cls := .type "enumerate", data := .fields #[.none, .bool false, .ref s.heap.objs.size, rawInt 0, .none, .none] } }) :=
  .of_wp fun prog w A R s hyp => by
    obtain ⟨hp, gg, dd, tk, os⟩ := s
    obtain ⟨b1, fin⟩ := hyp
    have subE := sub_enumerate
    have begins : ∀ {A' : Around} {E' : Value → Shared → Prop} {Q' : Value → Shared → Prop}, Q' (.ref hp.objs.size) ⟨hp.push ob, gg, dd, tk, os⟩ → wpAny (model prog w) A' (pyIter v) Q' E' ⟨hp, gg, dd, tk, os⟩ := fun z => B.iter prog w _ _ ⟨hp, gg, dd, tk, os⟩ _ b1 z
    wp_walk using begins
    refine wpAny_stack_any fun stk => wpAny_pure ?_
    split
    · rename_i cc _ _ _ _ _
      cases (cc == Value.type "enumerate") <;> (wp_walk using begins; exact ⟨_, rfl, fin⟩)
    · wp_walk using begins
      exact ⟨_, rfl, fin⟩
theorem call_one_enum {prog : Program} {w : World} {A : Around} {E : Value → Shared → Prop} {s : Shared} {v : Value} {ob : Obj} {Hs : Heap → Prop} {Q : Value → Shared → Prop} (B : Begins v ob Hs) (b1 : Hs s.heap)
    (fin : ∀ h', IsEnum h' (s.heap.objs.size + 1) s.heap.objs.size 0 .none → h'.get? s.heap.objs.size = some ob → (∀ b o, s.heap.get? b = some o → h'.get? b = some o) → Q (.ref (s.heap.objs.size + 1)) { s with heap := h' }) :
    wpAny (model prog w) A (call (.type "enumerate") [v]) Q E s := by
  refine callType_new F.called_enumerate (by decide) (F.typeCall_enumerate_1 _) (F.newCall_enumerate_1 _) (fun obj => F.args_object_init_2 obj _) F.entry_enumerate_new (one_enum B) ⟨b1, ?_⟩
  have sz : (s.heap.push ob).objs.size = s.heap.objs.size + 1 := Heap.size_push ..
  show _ ∧ _
  rw [sz]
  have en : IsEnum ((s.heap.push ob).push { cls := .type "enumerate", data := .fields #[.none, .bool false, .ref s.heap.objs.size, rawInt 0, .none, .none] }) (s.heap.objs.size + 1) s.heap.objs.size 0 .none := by
    have z := Heap.get?_push_size (s.heap.push ob) (o := { cls := .type "enumerate", data := .fields #[.none, .bool false, .ref s.heap.objs.size, rawInt 0, .none, .none] }) rfl
    rw [sz] at z
    exact z
  exact ⟨⟨_, en, rfl⟩, fin _ en (Heap.get?_push_of_some _ (Heap.get?_push_size _ B.free)) fun b o x => Heap.get?_push_of_some _ (Heap.get?_push_of_some _ x)⟩
/-- the items xs of the tuple at a, each in a new pair -/
def IteT (K : Fg) (a : Addr) (xs : List V) : It :=
  ⟨fun i H => SqT K H a xs ∧ i < xs.length,
   fun i H v H' => ∃ T x, v = .ref T ∧ H T = none ∧ H' = upd H T (.tup [.int (i : Nat), x]) ∧ xs[i]? = some x,
   fun i H => SqT K H a xs ∧ xs.length ≤ i⟩
theorem turn_enumT {P : Program} {w : World} {K : Fg} {elts : List Expr} {kk : Nat} {tpos : Pos} (a e it : Addr) (xs : List V) :
    Turn P w K (.Tuple elts kk tpos) (IteT K a xs) [e, it] e (fun i h => (∃ old, IsEnum h e it ((i : Nat) : Int) old) ∧ h.IsTupleIter it a i ∧ i ≤ xs.length ∧ e ≠ it ∧ a ≠ it) where
  mem := by simp
  obj := fun i h st b hb => by
    obtain ⟨⟨old, en⟩, ⟨o, ho, hc, hd⟩, _⟩ := st
    have z : b = e ∨ b = it := by simpa using hb
    rcases z with rfl | rfl
    · exact ⟨_, en, fun v q => nomatch q⟩
    · exact ⟨o, ho, fun v q => by rw [hd] at q; cases q⟩
  keep := fun i h h' st k => by
    obtain ⟨⟨old, en⟩, hi, r⟩ := st
    exact ⟨⟨old, k e (by simp) _ en⟩, hi.at fun o q => k it (by simp) o q, r⟩
  item := by
    intro X hP hw hK hc i pins s σ H E I hf st hg
    subst hP hw hK
    obtain ⟨⟨old, en⟩, hit, hle, hne, hai⟩ := st
    obtain ⟨hq, hlt⟩ := hg
    obtain ⟨its, rv, tp, hz⟩ := I.tuple hq
    have lenE : its.toArray.size = xs.length := by rw [List.size_toArray, ← rv.length]
    have hel : e < s.heap.objs.size := Heap.lt_size en
    have hil : it < s.heap.objs.size := by obtain ⟨_, z, _⟩ := hit; exact Heap.lt_size z
    refine wpAny_pyNext_enum_itemD (Draws.tuple (A := X.A.in1) (I.ok.hd hc) it a hai its.toArray) en ⟨hit, tp⟩ (by rw [lenE]; exact hlt) hne ?_ fun u h' tk hu out st2 hT hsz hk => ?_
    · intro z
      have z' : e = it ∨ e = a := by simpa using z
      rcases z' with z' | z'
      · exact hne z'
      · subst z'
        obtain ⟨o, ho, hcl, _⟩ := tp
        rw [en] at ho; cases ho
        have hcl' : Value.type "enumerate" = Value.type "tuple" := hcl
        injection hcl' with hcl'
        exact absurd hcl' (by decide)
    refine ⟨_, rfl, wpAny_letOwnedTupleGo_enum (s := { s with heap := h', toks := tk + 1 }) out fun h'' he' sb => ?_⟩
    have hu' : its[i]? = some u := by simpa using hu
    obtain ⟨x, hx, ru⟩ : ∃ x, xs[i]? = some x ∧ RelV x u := by
      have hx : xs[i]? = some xs[i] := List.getElem?_eq_getElem hlt
      obtain ⟨u2, q2, r2⟩ := rv.get hx
      rw [hu'] at q2; cases q2
      exact ⟨_, hx, r2⟩
    have hT2 : h''.get? s.heap.objs.size = some { cls := .type "tuple", data := .seq #[.int i tk, u] } := (sb.2 _ (Nat.ne_of_gt hel)).trans hT
    have new : ObjOk X.prog X.w (upd H s.heap.objs.size (.tup [.int (i : Nat), x])) h'' s.heap.objs.size (.tup [.int (i : Nat), x]) :=
      ⟨by show 2 ≤ sizeLine; decide, [.int i tk, u], .cons ⟨_, rfl⟩ (.cons ru .nil), ⟨_, hT2, rfl, _, rfl⟩⟩
    have I1 : Inv X pins σ (upd H s.heap.objs.size (.tup [.int (i : Nat), x])) { s with heap := h'', toks := tk + 1 } :=
      I.turnedNew (t' := tk + 1) (ch := [e, it]) (fun b ob hb q => (sb.2 b (fun z => hb (by simp [z]))).trans (hk b ob (fun z => hb (by simp [z])) (fun z => hb (by simp [z])) q)) hf (Nat.le_refl _) new
    refine ⟨.ref s.heap.objs.size, _, I1, rfl, ⟨_, x, rfl, I.hok.fresh (Nat.le_refl _), rfl, hx⟩, ⟨⟨u, ?_⟩, st2.1.at fun o q => (sb.2 it (Ne.symm hne)).trans q, hlt, hne, hai⟩, fun b hb => ?_⟩
    · have e1 : ((i + 1 : Nat) : Int) = (i : Int) + 1 := by omega
      rw [e1]
      exact he'
    · have z : b = e ∨ b = it := by simpa using hb
      have hb' : b < s.heap.objs.size := by rcases z with rfl | rfl <;> assumption
      rw [upd_ne (Nat.ne_of_lt hb')]
      exact (hf b hb).1
  done := by
    intro X hP hw hK hc i pins s σ H E I hf st hg
    subst hP hw hK
    obtain ⟨⟨old, en⟩, hit, hle, hne, hai⟩ := st
    obtain ⟨hq, hge⟩ := hg
    obtain ⟨its, rv, tp, hz⟩ := I.tuple hq
    have lenE : its.toArray.size = i := by rw [List.size_toArray, ← rv.length]; omega
    obtain ⟨f0, f1, f2, f3, f4, f5⟩ := hf it (by simp)
    exact wpAny_pyNext_enum_endD (Draws.tuple (A := X.A.in1) (I.ok.hd hc) it a hai its.toArray) en ⟨by rw [lenE]; exact hit, tp⟩ fun h' eb => ⟨rfl, I.turned (t' := s.toks) (fun b o hb q => eb b o hb q) f0 f1 f3 f4 f5⟩
  self := fun A i s Q E st h => let ⟨⟨_, en⟩, _⟩ := st; wpAny_pyIter_enum en h
def iEnT (K : Fg) (ta : TA) : TI := fun σ H R => ta σ H fun vs H1 => ∃ a xs, vs = [.ref a] ∧ SqT K H1 a xs ∧ R (IteT K a xs) H1
theorem pi_enT {X : Cx} {e : Expr} {ta : TA} {p pos tpos : Pos} {elts : List Expr} {kk : Nat} (hg : Gl X "enumerate") (hm : X.mg "enumerate" = none) (ha : PA X [e] ta) (hs : starEach [e] X.env = [(false, eval e X.env)] := by rfl) :
    PI X (.Tuple elts kk tpos) (.Call (.Name "enumerate" p) [e] [] pos) (iEnT X.K ta) := by
  refine ⟨fun pins s σ H R I h => Call_ (ld_blt I hg hm boot_enumerate (PyProof.Rows.callWith_type1 (thn (ha.run pos pins s σ H _ I h) fun us s1 ⟨vs, H1, I1, r1, a, xs, ev, hq, q⟩ => ?_) hs rfl))⟩
  subst ev
  cases r1 with
  | cons r rr =>
    cases rr
    cases r
    obtain ⟨its, rv, tp, hz⟩ := I1.tuple hq
    refine call_one_enum (begins_tuple a its.toArray) tp fun h' en hit hk => wpAny_pyIter_enum en ?_
    have I2 : Inv X pins σ H1 { s1 with heap := h' } := I1.kept (t' := s1.toks) hk
    have hal : a < s1.heap.objs.size := by obtain ⟨o, ho, _⟩ := tp; exact Heap.lt_size ho
    refine ⟨s1.heap.objs.size + 1, [s1.heap.objs.size + 1, s1.heap.objs.size], _, _, H1, rfl, I2, turn_enumT a (s1.heap.objs.size + 1) s1.heap.objs.size xs, ⟨⟨.none, en⟩, ⟨_, hit, rfl, rfl⟩, Nat.zero_le _, Nat.succ_ne_self _, Nat.ne_of_lt hal⟩, fun b hb => ?_, q⟩
    have z : b = s1.heap.objs.size + 1 ∨ b = s1.heap.objs.size := by simpa using hb
    have le : s1.heap.objs.size ≤ b := by rcases z with rfl | rfl <;> omega
    exact I1.fpOk le (I1.hok.fresh le)
theorem wk_enumT {K : Fg} {mg : Mg} {ρ : List Addr} {H : Hp} {a : Addr} {xs : List V} {ds : List D} (ha : SqT K H a xs) (la : RepL K ρ H xs ds) : Wk K mg (IteT K a xs) ρ H ⟨enumD ds, []⟩ where
  go := fun i H' ρ' S hi st s g => by
    rw [enumD_len] at hi
    exact ⟨st.sqT ha, by rw [la.length]; exact hi⟩
  stop := fun i H' ρ' S hi st s g => by
    rw [enumD_len] at hi
    exact ⟨st.sqT ha, by rw [la.length]; exact hi⟩
  yld := fun i H' ρ' S v H2 hi st s g ⟨T, x, e1, e2, e3, e4⟩ => by
    rw [enumD_len] at hi
    subst e1; subst e3
    obtain ⟨v1, q1, r1⟩ := la.get (List.getElem?_eq_getElem hi)
    rw [e4] at q1; cases q1
    exact ⟨_, enumD_at (List.getElem?_eq_getElem hi), .tup (.of upd_same) (.cons (.int _) (.cons ((r1.mono st).mono (stp_val e2)) .nil)), stp_val e2, s.val e2⟩
/-- enumerate of a list or a tuple -/
def enumAny (xs : List D) (S : Sto) : R ItD := match xs with
  | [.tup ds] => .ok ⟨enumD ds, []⟩ S
  | [x] => enumOf x S
  | _ => .err
def dEnumA (fs : DA) : DI := fun env S => (fs env S).bind enumAny
section
variable {X : Cx} {raw : List (Nat × V)} {W : WX} {pos p tpos : Pos} {e : Expr} {elts : List Expr} {kk : Nat} {fs : DA}
theorem ix_enum (hg : Gl X "enumerate") (hm : X.mg "enumerate" = none) (ha : AX X raw W [e] fs) (hs : starEach [e] X.env = [(false, eval e X.env)] := by rfl) :
    IX X raw W (.Tuple elts kk tpos) (.Call (.Name "enumerate" p) [e] [] pos) (dEnumA fs) := ⟨fun pins s σ H R I ⟨ρ, env, S, er, sr, h⟩ => by
  have hL := (ix_enumL (tpos := tpos) (elts := elts) (kk := kk) (p := p) (pos := pos) hg hm ha hs).run pins s σ H R I
  unfold dEnumA at h
  cases q : fs env S with
  | err => rw [q] at h; exact h.elim
  | exc c S1 => exact hL ⟨ρ, env, S, er, sr, by unfold dEnum; rw [q] at h ⊢; exact h⟩
  | ok ds S1 =>
    rw [q] at h
    simp only [RL.R.bind_ok] at h
    unfold enumAny at h
    split at h
    · rename_i es
      refine (pi_enT (tpos := tpos) (elts := elts) (kk := kk) (p := p) (pos := pos) hg hm ha hs).run pins s σ H R I ⟨ρ, env, S, er, sr, ?_⟩
      rw [q]
      intro vs ρ' H' st sr' rl
      cases rl with
      | cons ra t =>
        cases t
        cases ra with
        | tup hq l => exact ⟨_, _, rfl, hq, h _ ρ' H' st sr' (wk_enumT hq l)⟩
    · rename_i x hx
      exact hL ⟨ρ, env, S, er, sr, by unfold dEnum; rw [q]; exact h⟩
    · exact h.elim⟩
end
end RL

namespace RL
open PySem PySem.Spec PyProof.Rows L2

/-! ### x[::-1], x a list -/
def gRev : G1 := fun x S => match itemsL x S with
  | some ds => .ok (.ref S.length) (S ++ [.lst ds.reverse])
  | none => .err
theorem RepL.snoc {K : Fg} {ρ : List Addr} {H : Hp} {v : V} {d : D} (r : Rep K ρ H v d) {vs : List V} {ds : List D} (l : RepL K ρ H vs ds) : RepL K ρ H (vs ++ [v]) (ds ++ [d]) := l.append (.cons r .nil)
theorem RepL.rev {K : Fg} {ρ : List Addr} {H : Hp} : ∀ {vs : List V} {ds : List D}, RepL K ρ H vs ds → RepL K ρ H vs.reverse ds.reverse
  | _, _, .nil => .nil
  | _, _, .cons r t => by
    rw [List.reverse_cons, List.reverse_cons]
    exact RepL.snoc r (RepL.rev t)
section
variable {X : Cx} {raw : List (Nat × V)} {W : WX} {pos p p1 p2 p3 : Pos} {e tg : Expr} {f : DE} {k : Nat}
theorem ex_rev (he : EX X raw W e f) : EX X raw W (.Subscript e (.Slice none none (some (.UnaryOp .USub (.Constant (.int 1) k p1) p2)) p3) pos) (dUn gRev f) :=
  PE.imp (pe_revL he) fun σ H Q ⟨ρ, env, S, e, s, h⟩ => tG_bind e s h fun d S1 v ρ1 H1 st e1 s1 r1 h1 => by
    unfold gRev at h1
    split at h1
    · rename_i ds eds
      obtain ⟨a, xs, rfl, hq, l⟩ := itemsL_is s1 r1 eds
      exact ⟨a, xs, rfl, hq, fun q hq' => post_lst h1 s1 l.rev q hq'⟩
    · exact h1.elim
/-- for .. in reversed(x), x a list -/
def revOf (x : D) (S : Sto) : R ItD := match lstG x S with
  | some (ds, g) => .ok ⟨ds.reverse, g⟩ S
  | none => .err
theorem wk_rev {K : Fg} {mg : Mg} {ρ : List Addr} {H : Hp} {a : Addr} {ds : List D} {n : Nat} {g : List (Nat × O)} (ha : LsG K mg ρ H a ds g) (hn : n = ds.length) : Wk K mg (Itv K a n) ρ H ⟨ds.reverse, g⟩ where
  go := fun i H' ρ' S hi st s gg => by
    rw [List.length_reverse] at hi
    obtain ⟨xs, h1, l1⟩ := ha _ _ _ st s gg
    exact ⟨by omega, xs, xs[n - 1 - i]'(by rw [l1.length]; omega), h1, List.getElem?_eq_getElem _⟩
  stop := fun i H' ρ' S hi st s gg => by
    rw [List.length_reverse] at hi
    show n ≤ i
    omega
  yld := fun i H' ρ' S v H2 hi st s gg ⟨e1, e2⟩ => by
    rw [List.length_reverse] at hi
    subst e1
    obtain ⟨xs, h1, l1⟩ := ha _ _ _ st s gg
    have hx := e2 xs h1
    have hj : n - 1 - i < ds.length := by omega
    obtain ⟨v1, q1, r1⟩ := l1.get (List.getElem?_eq_getElem hj)
    rw [hx] at q1; cases q1
    refine ⟨_, ?_, r1, Stp.refl _ _, s⟩
    rw [List.getElem?_reverse (by omega)]
    rw [show ds.length - 1 - i = n - 1 - i by omega]
    exact List.getElem?_eq_getElem hj
def dItR (f : DE) : DI := fun env S => (f env S).bind revOf
theorem ix_rev (hg : Gl X "reversed") (hm : X.mg "reversed" = none) (he : EX X raw W e f) (hs : starEach [e] X.env = (false, eval e X.env) :: starEach [] X.env := by rfl) :
    IX X raw W tg (.Call (.Name "reversed" p) [e] [] pos) (dItR f) :=
  PI.imp (RT.pi_revA hg hm he hs) fun σ H Q ⟨ρ, env, S, er, s, h⟩ => tG_bindI er s h fun d S1 v ρ1 H1 st e1 s1 r1 h1 => by
    unfold revOf at h1
    split at h1
    · rename_i ds g ea
      obtain ⟨a, rfl, qa, xs, hx, lx⟩ := LsG.now s1 r1 ea
      exact ⟨a, xs, rfl, .inl ⟨hx, h1 _ ρ1 H1 (Stp.refl _ _) s1 (by rw [lx.length]; exact wk_rev qa rfl)⟩⟩
    · exact h1.elim
end

/-! ### d.setdefault(k, z) -/
def dSetd (fo fk fz : DE) : DE := fun env S => (fo env S).bind fun x S1 => match x with
  | .ref n => match S1[n]? with
    | some (.dict _) => (fk env S1).bind fun k S2 => (fz env S2).bind fun z S3 => match S3[n]? with
      | some (.dict kvs) => if isKey k = true ∧ kvs.length < lim then (match findK kvs k with
        | some d => .ok d S3
        | none => .ok z (S3.set n (.dict (putD kvs k z)))) else .err
      | _ => .err
    | _ => .err
  | _ => .err
section
variable {X : Cx} {raw : List (Nat × V)} {W : WX} {apos cpos : Pos} {o e f : Expr} {fo fk fz : DE}
theorem ex_setd (ho : EX X raw W o fo) (he : EX X raw W e fk) (hf : EX X raw W f fz) (m : M2 X o "setdefault" apos e f cpos) : EX X raw W (.Call (.Attribute o "setdefault" apos) [e, f] [] cpos) (dSetd fo fk fz) :=
  PE.imp (pe_dsetd ho he hf m) fun σ H Q ⟨ρ, env, S, er, s, h⟩ => tG_bind er s h fun d S1 v ρ1 H1 st e1 s1 r1 h1 => by
    split at h1
    · rename_i n
      cases r1 with
      | ref hn =>
        rename_i a
        split at h1
        · rename_i kvs0 hS
          obtain ⟨ks0, hx0, l0⟩ := s1.ob _ _ _ hS hn
          refine ⟨a, rfl, .inl ⟨ks0, .of hx0⟩, ?_⟩
          refine tG_bind e1 s1 h1 fun k S2 y ρ2 H2 st2 e2 s2 r2 h2 => ?_
          refine tG_bind e2 s2 h2 fun z S3 zv ρ3 H3 st3 e3 s3 r3 h3 => ?_
          have hn3 := st3.at (st2.at hn)
          split at h3
          · rename_i kvs hS3
            obtain ⟨ks, hx, l⟩ := s3.ob _ _ _ hS3 hn3
            split at h3
            · rename_i hk
              obtain ⟨kk, rfl, rfl⟩ := key_of_rep (r2.mono st3) hk.1
              refine ⟨ks, kk, hx, rfl, by rw [lim_eq, l.length]; exact hk.2, fun vv hv => ?_, fun hv => ?_⟩
              · rcases l.find (k := kk) with ⟨w1, w2⟩ | ⟨v', d', w1, w2, r⟩
                · rw [w1] at hv; cases hv
                · rw [w1] at hv; cases hv
                  rw [w2] at h3
                  exact post_val h3 s3 r
              · rcases l.find (k := kk) with ⟨w1, w2⟩ | ⟨v', d', w1, w2, r⟩
                · rw [w2] at h3
                  exact post_set h3 s3 hn3 ⟨_, upd_same, (l.put r3).mono (wr s3 hn3)⟩ (r3.mono (wr s3 hn3))
                · rw [w1] at hv; cases hv
            · exact h3.elim
          · exact h3.elim
        · exact h1.elim
    · exact h1.elim
end
end RL

namespace RL
open PySem PySem.Spec PyProof.Rows L2
/-! ### for over a dict: it is locked while the loop runs -/
section
variable {X : Cx} {raw : List (Nat × V)} {W : WX} {pos : Pos}
/-- a walk through it.items, as the reading of a for wishes it -/
theorem for_core {t : DG} {f : DS} {it : ItD} {J : It} {ρ1 : List Addr} {H1 : Hp} {env : Env} {S1 : Sto} {σ : L2.St} {D : Ends} (wk : Wk X.K X.mg J ρ1 H1 it) (e : ER X.K raw ρ1 H1 env σ) (s1 : SR X.K X.mg ρ1 H1 S1)
    (h1 : PostS X.K X.mg raw W ρ1 H1 (forL it.guard t f it.items env S1) D) :
    ∃ Wm : Nat → Nat → L2.St → Hp → Prop, (∃ m, Wm 0 m σ H1) ∧ ∀ (i m : Nat) (σ : L2.St) (H : Hp), Wm i m σ H → (J.stop i H ∧ D.nx σ H) ∨ (J.go i H ∧ ∃ N : L2.St → Hp → Prop, (∀ σ' H', N σ' H' → ∃ m', m' < m ∧ Wm (i + 1) m' σ' H') ∧
      ∀ v H', J.yld i H v H' → tGt X.K X.mg raw t v σ H' fun σ2 H2 => tS X.K X.mg raw W f { D with nx := N, ct := N, bk := D.nx } σ2 H2) := by
  refine ⟨fun i m σ H => m = it.items.length - i ∧ i ≤ it.items.length ∧ ∃ ρ env S, ER X.K raw ρ H env σ ∧ SR X.K X.mg ρ H S ∧ Stp ρ1 H1 ρ H ∧ PostS X.K X.mg raw W ρ H (forL it.guard t f (it.items.drop i) env S) D,
    ⟨_, rfl, Nat.zero_le _, ρ1, env, S1, e, s1, Stp.refl _ _, by simpa using h1⟩, ?_⟩
  rintro i m σ2 H2 ⟨rfl, hi, ρ2, env2, S2, e2, s2, st2, h2⟩
  by_cases hlt : i < it.items.length
  · rw [List.drop_eq_getElem_cons hlt] at h2
    unfold forL at h2
    by_cases hg : Grd it.guard S2
    · rw [if_pos hg] at h2
      refine .inr ⟨wk.go i H2 ρ2 S2 hlt st2 s2 hg, fun σ' H' => ∃ ρ env S, ER X.K raw ρ H' env σ' ∧ SR X.K X.mg ρ H' S ∧ Stp ρ1 H1 ρ H' ∧ PostS X.K X.mg raw W ρ H' (forL it.guard t f (it.items.drop (i + 1)) env S) D,
        fun σ' H' w => ⟨it.items.length - (i + 1), by omega, rfl, hlt, w⟩, fun x H' y => ?_⟩
      obtain ⟨d, ed, r3, st3, s3⟩ := wk.yld i H2 ρ2 S2 x H' hlt st2 s2 hg y
      have ed' : it.items[i] = d := by rw [List.getElem?_eq_getElem hlt] at ed; exact Option.some.inj ed
      rw [ed'] at h2
      refine ⟨ρ2, env2, S2, d, e2.mono st3, s3, r3, ?_⟩
      cases q2 : t d env2 S2 with
      | ok e4 S4 =>
        rw [q2] at h2
        intro σ4 ρ4 H4 st4 s4 er4
        have st14 := (st2.trans st3).trans st4
        refine ⟨ρ4, e4, S4, er4, s4, ?_⟩
        have h4 := PostS.later (PostS.later h2 st3) st4
        dsimp only at h4
        cases q3 : f e4 S4 with
        | nx e5 S5 => rw [q3] at h4; exact fun σ' ρ' H' st sr er => ⟨ρ', e5, S5, er, sr, st14.trans st, PostS.later h4 st⟩
        | ct e5 S5 => rw [q3] at h4; exact fun σ' ρ' H' st sr er => ⟨ρ', e5, S5, er, sr, st14.trans st, PostS.later h4 st⟩
        | bk e5 S5 => rw [q3] at h4; exact h4
        | rt d S5 => rw [q3] at h4; exact h4
        | exc c e5 S5 => rw [q3] at h4; exact h4
        | err => rw [q3] at h4; exact h4
      | exc c S4 => rw [q2] at h2; exact h2.elim
      | err => rw [q2] at h2; exact h2.elim
    · rw [if_neg hg] at h2; exact h2.elim
  · have hd : it.items.drop i = [] := List.drop_eq_nil_of_le (Nat.le_of_not_lt hlt)
    rw [hd] at h2
    unfold forL at h2
    by_cases hg : Grd it.guard S2
    · rw [if_pos hg] at h2
      exact .inl ⟨wk.stop i H2 ρ2 S2 (Nat.le_of_not_lt hlt) st2 s2 hg, h2 σ2 ρ2 H2 (Stp.refl _ _) s2 e2⟩
    · rw [if_neg hg] at h2; exact h2.elim

end
/-! a frozen dict is let go: all else stands as it was -/
mutual
theorem Rep.tr {K : Fg} {ρ : List Addr} {H H1 : Hp} {a : Addr} {ob : Obj} {ks : List (Key × V)} (ha : H a = some (.frz ob (.dK ks))) (he : ∀ b, b ≠ a → H1 b = H b) : ∀ {d : D} {v : V}, Rep K ρ H v d → Rep K ρ H1 v d
  | .non, _, .non => .non
  | .bl _, _, .bl b => .bl b
  | .int _, _, .int b => .int b
  | .str _, _, .str b => .str b
  | .tup _, _, .tup (a := b) h l => .tup (by
      rcases h with (h | ⟨o, h⟩) | h
      · exact .inl (.inl (by rw [he b (fun z => by rw [z, ha] at h; cases h)]; exact h))
      · exact .inl (.inr ⟨o, by rw [he b (fun z => by rw [z, ha] at h; cases h)]; exact h⟩)
      · exact .inr h) (RepL.tr ha he l)
  | .scr _, _, .scr (a := b) h l => .scr (by
      rcases h with ⟨o, h⟩ | h
      · exact .inl ⟨o, by rw [he b (fun z => by rw [z, ha] at h; cases h)]; exact h⟩
      · exact .inr h) (RepL.tr ha he l)
  | .ref _, _, .ref h => .ref h
theorem RepL.tr {K : Fg} {ρ : List Addr} {H H1 : Hp} {a : Addr} {ob : Obj} {ks : List (Key × V)} (ha : H a = some (.frz ob (.dK ks))) (he : ∀ b, b ≠ a → H1 b = H b) : ∀ {ds : List D} {vs : List V}, RepL K ρ H vs ds → RepL K ρ H1 vs ds
  | [], _, .nil => .nil
  | _ :: _, _, .cons h l => .cons (Rep.tr ha he h) (RepL.tr ha he l)
end
theorem RepKV.tr {K : Fg} {ρ : List Addr} {H H1 : Hp} {a : Addr} {ob : Obj} {ks : List (Key × V)} (ha : H a = some (.frz ob (.dK ks))) (he : ∀ b, b ≠ a → H1 b = H b) : ∀ {kvs : List (D × D)} {ls : List (Key × V)}, RepKV K ρ H ls kvs → RepKV K ρ H1 ls kvs
  | _, _, .nil => .nil
  | _, _, .cons r t => .cons (r.tr ha he) (RepKV.tr ha he t)
theorem SR.unlock {K : Fg} {mg : Mg} {ρ : List Addr} {H : Hp} {S : Sto} {n : Nat} {a : Addr} {ob : Obj} {ks : List (Key × V)} {kvs : List (D × D)} (s : SR K mg ρ H S) (hn : ρ[n]? = some a) (ha : H a = some (.frz ob (.dK ks))) (r : RepKV K ρ H ks kvs) :
    SR K mg ρ (upd H a (.dK ks)) (S.set n (.dict kvs)) where
  len := by simp [s.len]
  nd := s.nd
  ob := fun m u b h1 h2 => by
    have he : ∀ b, b ≠ a → upd H a (.dK ks) b = H b := fun b hb => upd_ne hb
    by_cases e : m = n
    · subst e
      rw [hn] at h2; cases h2
      obtain ⟨q, _⟩ := List.getElem?_eq_some_iff.mp h1
      rw [List.getElem?_set_self (by simpa using q)] at h1
      cases h1
      exact ⟨ks, upd_same, r.tr ha he⟩
    · rw [List.getElem?_set_ne (Ne.symm e)] at h1
      have ne : b ≠ a := fun z => by
        subst z
        obtain ⟨q1, e1⟩ := List.getElem?_eq_some_iff.mp hn
        obtain ⟨q2, e2⟩ := List.getElem?_eq_some_iff.mp h2
        exact e ((List.getElem_inj s.nd).mp (e2.trans e1.symm))
      have q := s.ob m u b h1 h2
      cases u with
      | lst ds => obtain ⟨xs, e, l⟩ := q; exact ⟨xs, (he b ne).trans e, l.tr ha he⟩
      | dict ds => obtain ⟨xs, e, l⟩ := q; exact ⟨xs, (he b ne).trans e, l.tr ha he⟩
      | ins c fs => obtain ⟨C, dx, gs, g, q, n, l⟩ := q; exact ⟨C, dx, gs, g, (he b ne).trans q, n, l.tr ha he⟩
      | fd ds => obtain ⟨xs, o, e, l⟩ := q; exact ⟨xs, o, (he b ne).trans e, l.tr ha he⟩
theorem ER.tr {K : Fg} {raw : List (Nat × V)} {ρ : List Addr} {H H1 : Hp} {env : Env} {σ : L2.St} {a : Addr} {ob : Obj} {ks : List (Key × V)} (e : ER K raw ρ H env σ) (ha : H a = some (.frz ob (.dK ks))) (he : ∀ b, b ≠ a → H1 b = H b) : ER K raw ρ H1 env σ :=
  ⟨e.len, fun i d h => let ⟨v, q, r⟩ := e.at_ i d h; ⟨v, q, r.tr ha he⟩, e.raw⟩
theorem stp_unlock {ρ ρ' : List Addr} {H H' : Hp} {a : Addr} {od : Obj} {ks : List (Key × V)} (ha : a ∈ ρ) (e : H a = some (.dK ks)) (st : Stp ρ (upd H a (.frz od (.dK ks))) ρ' H') : Stp ρ H ρ' (upd H' a (.dK ks)) where
  ext := st.ext
  new := fun b hb => by
    rcases st.new b hb with h | h
    · exact .inl h
    · by_cases z : b = a
      · exact .inl (z ▸ ha)
      · rw [upd_ne z] at h; exact .inr h
  old := fun b o hb h => by
    have z : b ≠ a := fun z => hb (z ▸ ha)
    rw [upd_ne z]; exact st.old b o hb (by rw [upd_ne z]; exact h)
  frz := fun b o u h => by
    have z : b ≠ a := fun z => by rw [z, e] at h; cases h
    rw [upd_ne z]; exact st.frz b o u (by rw [upd_ne z]; exact h)
  tup := fun b xs h => by
    have z : b ≠ a := fun z => by rw [z, e] at h; cases h
    rw [upd_ne z]; exact st.tup b xs (by rw [upd_ne z]; exact h)
/-- what is told behind the loop -/
def unlockF (n : Nat) (kvs : List (D × D)) : Fl → Fl
  | .nx e S => if S[n]? = some (.fd kvs) then .nx e (S.set n (.dict kvs)) else .err
  | .bk e S => if S[n]? = some (.fd kvs) then .bk e (S.set n (.dict kvs)) else .err
  | .ct e S => if S[n]? = some (.fd kvs) then .ct e (S.set n (.dict kvs)) else .err
  | .rt d S => if S[n]? = some (.fd kvs) then .rt d (S.set n (.dict kvs)) else .err
  | _ => .err
def dForD (i : Nat) (t : DG) (b : DS) : DS := fun env S => match env[i]? with
  | some (some (.ref n)) => match S[n]? with
    | some (.dict kvs) => unlockF n kvs (forL [(n, .fd kvs)] t b (kvs.map (·.1)) env (S.set n (.fd kvs)))
    | _ => .err
  | _ => .err
theorem wk_keys {K : Fg} {mg : Mg} {ρ : List Addr} {H : Hp} {a : Addr} {n : Nat} {od : Obj} {ks : List (Key × V)} {kvs : List (D × D)} (hn : ρ[n]? = some a) (ha : H a = some (.frz od (.dK ks))) (r : RepKV K ρ H ks kvs) : Wk K mg (Itk a od ks) ρ H ⟨kvs.map (·.1), [(n, .fd kvs)]⟩ where
  go := fun i H' ρ' S hi st s g => ⟨st.frz _ _ _ ha, by rw [List.length_map] at hi; rw [r.length]; exact hi⟩
  stop := fun i H' ρ' S hi st s g => ⟨st.frz _ _ _ ha, by rw [List.length_map] at hi; rw [r.length]; exact hi⟩
  yld := fun i H' ρ' S x H2 hi st s g ⟨e, k, v, q, ex⟩ => by
    subst e
    have kr : ∀ {ks : List (Key × V)} {kvs : List (D × D)}, RepKV K ρ H ks kvs → ∀ {i : Nat} {k : Key} {v : V}, ks[i]? = some (k, v) → ∃ d, (kvs.map (·.1))[i]? = some d ∧ Rep K ρ' H2 (kV k) d := by
      intro ks kvs r
      induction r with
      | nil => intro i k v h; simp at h
      | @cons k0 v0 d0 ks kvs rr t ih =>
        intro i k v h
        cases i with
        | zero => simp at h; obtain ⟨rfl, rfl⟩ := h; exact ⟨_, rfl, match k0 with | .inl i => .int i | .inr x => .str x⟩
        | succ i => simpa using ih (by simpa using h)
    obtain ⟨d, h1, h2⟩ := kr r q
    exact ⟨d, h1, by rw [ex]; exact h2, Stp.refl _ _, s⟩
section
variable {X : Cx} {raw : List (Nat × V)} {W : WX} {pos np : Pos}
theorem sx_forD {tg : Expr} {x : Str} {i : Nat} {body : List Stmt} {t : DG} {f : DS} (hp : PassesOwn (model X.prog X.w) X.A X.env X.xe) (hc : X.calm = true) (hN : X.N[i]? = some x) (hv : Vis X.env.scope x) (hg : GX X raw tg t) (hb : BX X raw (fun _ _ _ _ => False) body f)
    (hd : (x == ("__debug__" : Str)) = false := by decide) (hcd : (x == ("__classdict__" : Str)) = false := by decide)
    (hs : ∀ u, foldedSetIterable (.Name x np) X.env u = pure u := by intro _; rfl) : SX X raw W (.For tg (.Name x np) body [] pos) (dForD i t f) :=
  PS.imp (ps_lock (ps_for hp hc (pi_keys (pe_var hN hv hd hcd)) hg hb hs)) fun σ H Dn ⟨ρ, env, S, e, s, h⟩ => by
    unfold dForD at h
    split at h
    · rename_i n hi
      split at h
      · rename_i kvs hS
        obtain ⟨v, hσ, rv⟩ := e.at_ i _ hi
        cases rv with
        | @ref n a hn =>
          obtain ⟨ks, ha, r⟩ := s.ob _ _ _ hS hn
          have hmem : a ∈ ρ := List.mem_of_getElem? hn
          refine ⟨a, .dK ks, ha, trivial, fun od => ?_⟩
          have st0 : Stp ρ H ρ (upd H a (.frz od (.dK ks))) := stp_write hmem ⟨_, ha, trivial⟩
          have s0 := s.write (ho := .frz od (.dK ks)) (o' := .fd kvs) hn ⟨_, ha, trivial⟩ ⟨ks, od, upd_same, r.mono st0⟩
          refine ⟨.ref a, hσ, a, od, rfl, .inl ⟨ks, upd_same, ?_⟩⟩
          refine for_core (W := fun _ _ _ _ => False) (wk_keys hn upd_same (r.mono st0)) (e.mono st0) s0 ?_
          -- what is told behind the loop, seen from the locked heap
          have back : ∀ {ρ' : List Addr} {H' : Hp} {S' : Sto}, Stp ρ (upd H a (.frz od (.dK ks))) ρ' H' → SR X.K X.mg ρ' H' S' → S'[n]? = some (.fd kvs) → H' a = some (.frz od (.dK ks)) ∧ Stp ρ H ρ' (upd H' a (.dK ks)) ∧ SR X.K X.mg ρ' (upd H' a (.dK ks)) (S'.set n (.dict kvs)) := fun st sr hS' => by
            have hn' := st.at hn
            obtain ⟨ks', ob', e', r'⟩ := sr.ob _ _ _ hS' hn'
            have ef := st.frz a od (.dK ks) upd_same
            rw [ef] at e'
            cases e'
            exact ⟨ef, stp_unlock hmem ha st, sr.unlock hn' ef r'⟩
          cases q : forL [(n, .fd kvs)] t f (kvs.map (·.1)) env (S.set n (.fd kvs)) with
          | nx e2 S2 =>
            rw [q] at h
            dsimp only [unlockF] at h
            split at h
            · rename_i hS2
              intro σ' ρ' H' st sr er
              obtain ⟨b1, b2, b3⟩ := back st sr hS2
              exact ⟨b1, h σ' ρ' _ b2 b3 (er.tr b1 fun b hb => upd_ne hb)⟩
            · exact h.elim
          | bk e2 S2 =>
            rw [q] at h
            dsimp only [unlockF] at h
            split at h
            · rename_i hS2
              intro σ' ρ' H' st sr er
              obtain ⟨b1, b2, b3⟩ := back st sr hS2
              exact ⟨b1, h σ' ρ' _ b2 b3 (er.tr b1 fun b hb => upd_ne hb)⟩
            · exact h.elim
          | ct e2 S2 =>
            rw [q] at h
            dsimp only [unlockF] at h
            split at h
            · rename_i hS2
              intro σ' ρ' H' st sr er
              obtain ⟨b1, b2, b3⟩ := back st sr hS2
              exact ⟨b1, h σ' ρ' _ b2 b3 (er.tr b1 fun b hb => upd_ne hb)⟩
            · exact h.elim
          | rt d S2 =>
            rw [q] at h
            dsimp only [unlockF] at h
            split at h
            · rename_i hS2
              intro v ρ' H' st sr rr
              obtain ⟨b1, b2, b3⟩ := back st sr hS2
              exact ⟨b1, h v ρ' _ b2 b3 (rr.tr b1 fun b hb => upd_ne hb)⟩
            · exact h.elim
          | exc c e2 S2 => rw [q] at h; exact h.elim
          | err => rw [q] at h; exact h.elim
      · exact h.elim
    · exact h.elim
end
/-- for over a dict that is walked already -/
def dForF (i : Nat) (t : DG) (b : DS) : DS := fun env S => match env[i]? with
  | some (some (.ref n)) => match S[n]? with
    | some (.fd kvs) => forL [(n, .fd kvs)] t b (kvs.map (·.1)) env S
    | _ => .err
  | _ => .err
section
variable {X : Cx} {raw : List (Nat × V)} {W : WX} {pos np : Pos}
theorem sx_forF {tg : Expr} {x : Str} {i : Nat} {body : List Stmt} {t : DG} {f : DS} (hp : PassesOwn (model X.prog X.w) X.A X.env X.xe) (hc : X.calm = true) (hN : X.N[i]? = some x) (hv : Vis X.env.scope x) (hg : GX X raw tg t) (hb : BX X raw W body f)
    (hd : (x == ("__debug__" : Str)) = false := by decide) (hcd : (x == ("__classdict__" : Str)) = false := by decide)
    (hs : ∀ u, foldedSetIterable (.Name x np) X.env u = pure u := by intro _; rfl) : SX X raw W (.For tg (.Name x np) body [] pos) (dForF i t f) :=
  PS.imp (ps_for hp hc (pi_keys (pe_var hN hv hd hcd)) hg hb hs) fun σ H Dn ⟨ρ, env, S, e, s, h⟩ => by
    unfold dForF at h
    split at h
    · rename_i n hi
      split at h
      · rename_i kvs hS
        obtain ⟨v, hσ, rv⟩ := e.at_ i _ hi
        cases rv with
        | @ref n a hn =>
          obtain ⟨ks, od, ha, r⟩ := s.ob _ _ _ hS hn
          refine ⟨.ref a, hσ, a, od, rfl, .inl ⟨ks, ha, ?_⟩⟩
          exact for_core (wk_keys hn ha r) e s h
      · exact h.elim
    · exact h.elim
end
/-- for .. in a name: over a dict or not, as it stands -/
def dForN (i : Nat) (t : DG) (b : DS) : DS := fun env S => match env[i]? with
  | some (some (.ref n)) => (match S[n]? with
    | some (.dict _) => dForD i t b env S
    | some (.fd _) => dForF i t b env S
    | _ => dFor (dItA (dV i)) t b env S)
  | _ => dFor (dItA (dV i)) t b env S
section
variable {X : Cx} {raw : List (Nat × V)} {W : WX} {pos np : Pos}
theorem bx_noex {body : List Stmt} {f : DS} (hb : BX X raw W body f) : BX X raw (fun _ _ _ _ => False) body f :=
  PSs.imp hb fun σ H D ⟨ρ, env, S, e, s, h⟩ => ⟨ρ, env, S, e, s, by
    cases q : f env S with
    | exc c e1 S1 => rw [q] at h; exact fun C σ' ρ' H' g st sr er => (h C σ' ρ' H' g st sr er).elim
    | nx e1 S1 => rw [q] at h; exact h
    | rt e1 S1 => rw [q] at h; exact h
    | bk e1 S1 => rw [q] at h; exact h
    | ct e1 S1 => rw [q] at h; exact h
    | err => rw [q] at h; exact h⟩
theorem sx_forN {tg : Expr} {x : Str} (i : Nat) {body : List Stmt} {t : DG} {f : DS} (hp : PassesOwn (model X.prog X.w) X.A X.env X.xe) (hc : X.calm = true) (hg : GX X raw tg t) (hb : BX X raw W body f) (hN : X.N[i]? = some x := by rfl) (hv : Vis X.env.scope x := by first | exact Or.inl rfl | exact Or.inr (Or.inl rfl) | exact Or.inr (Or.inr rfl))
    (hd : (x == ("__debug__" : Str)) = false := by decide) (hcd : (x == ("__classdict__" : Str)) = false := by decide)
    (hs : ∀ u, foldedSetIterable (.Name x np) X.env u = pure u := by intro _; rfl) : SX X raw W (.For tg (.Name x np) body [] pos) (dForN i t f) := ⟨fun pins s σ H D I ⟨ρ, env, S, e, sr, h⟩ => by
  have hF := (sx_for (pos := pos) hp hc (it_any (ex_v (pos := np) i hN hv hd hcd)) hg hb hs).run pins s σ H D I
  have hE := (sx_forF (pos := pos) (np := np) (W := W) hp hc hN hv hg hb hd hcd hs).run pins s σ H D I
  have hD := (sx_forD (pos := pos) (np := np) (W := W) hp hc hN hv hg (bx_noex hb) hd hcd hs).run pins s σ H D I
  unfold dForN at h
  split at h
  · split at h
    · exact hD ⟨ρ, env, S, e, sr, h⟩
    · exact hE ⟨ρ, env, S, e, sr, h⟩
    · exact hF ⟨ρ, env, S, e, sr, h⟩
  · exact hF ⟨ρ, env, S, e, sr, h⟩⟩
end
end RL

namespace RL
open PySem PySem.Spec PyProof.Rows L2
/-! ### a, b, .. = x, x a tuple or a list -/
def sTupA (n : Nat) (t : DGs) : DG := fun d env S => match d with
  | .tup ds => if ds.length = n then t ds env S else .err
  | .scr ds => if ds.length = n then t ds env S else .err
  | .ref k => match S[k]? with
    | some (.lst ds) => if ds.length = n then t ds env S else .err
    | _ => .err
  | _ => .err
section
variable {X : Cx} {raw : List (Nat × V)} {pos : Pos}
theorem gx_tupA {es : List Expr} {k : Nat} {g : DGs} {n : Nat} (hc : X.calm = true) (h : GsX X raw es g)
    (hn : (assignEach es X.env).length = n := by rfl) (hst : (assignEach es X.env).findIdx? (·.1) = none := by rfl) : GX X raw (.Tuple es k pos) (sTupA n g) := ⟨fun pins s σ H v u Q I r ⟨ρ, env, S, d, e, sr, rv, hh⟩ => by
  have hT := (gx_tup (pos := pos) (k := k) hc h hn hst).run pins s σ H v u Q I r
  have hL := (pg_lst (pos := pos) (k := k) hc h hn hst).run pins s σ H v u Q I r
  unfold sTupA at hh
  split at hh
  · exact hT ⟨ρ, env, S, _, e, sr, rv, hh⟩
  · rename_i ds
    split at hh
    · rename_i hl
      cases rv with
      | scr hq l => exact hL ⟨_, _, rfl, hq.sq, by rw [l.length]; exact hl, ρ, env, S, ds, e, sr, l, hh⟩
    · exact hh.elim
  · split at hh
    · rename_i ds hS
      split at hh
      · rename_i hl
        cases rv with
        | ref ha =>
          obtain ⟨xs, hx, l⟩ := sr.ob _ _ _ hS ha
          exact hL ⟨_, _, rfl, .of hx, by rw [l.length]; exact hl, ρ, env, S, ds, e, sr, l, hh⟩
      · exact hh.elim
    · exact hh.elim
  · exact hh.elim⟩
end
end RL

namespace RL
open PySem PySem.Spec PyProof.Rows L2
/-! ### for .. in reversed(range(..)) -/
def revRg (x y : D) (S : Sto) : R ItD := match x, y with
  | .int i, .int j => if -(2 ^ 62) ≤ i ∧ i < 2 ^ 62 ∧ -(2 ^ 62) ≤ j ∧ j < 2 ^ 62 then .ok ⟨rangeC (i + (((j - i).toNat : Nat) : Int) - 1) (-1) (j - i).toNat, []⟩ S else .err
  | _, _ => .err
def dRevR2 (fa fb : DE) : DI := fun env S => (fa env S).bind fun x S1 => (fb env S1).bind fun y S2 => revRg x y S2
def revRg1 (x : D) (S : Sto) : R ItD := match x with
  | .int j => if -(2 ^ 62) ≤ j ∧ j < 2 ^ 62 then .ok ⟨rangeC (0 + (((j - 0).toNat : Nat) : Int) - 1) (-1) (j - 0).toNat, []⟩ S else .err
  | _ => .err
def dRevR1 (fa : DE) : DI := fun env S => (fa env S).bind revRg1
section
variable {X : Cx} {raw : List (Nat × V)} {W : WX} {pos p p2 pos2 : Pos} {tg a b : Expr} {fa fb : DE}
theorem ix_revR2 (hg : Gl X "reversed") (hm : X.mg "reversed" = none) (hg2 : Gl X "range") (hm2 : X.mg "range" = none) (ha : EX X raw W a fa) (hb : EX X raw W b fb)
    (hs : starEach [a, b] X.env = (false, eval a X.env) :: starEach [b] X.env := by rfl) (hs2 : starEach [b] X.env = (false, eval b X.env) :: starEach [] X.env := by rfl) (hp : ((backTo pos2 (starEach [b] X.env)).any fun x => x.1) = false := by rfl)
    (hs3 : starEach [.Call (.Name "range" p2) [a, b] [] pos2] X.env = (false, eval (.Call (.Name "range" p2) [a, b] [] pos2) X.env) :: starEach [] X.env := by rfl) :
    IX X raw W tg (.Call (.Name "reversed" p) [.Call (.Name "range" p2) [a, b] [] pos2] [] pos) (dRevR2 fa fb) :=
  PI.imp (pi_revR hg hm (prg_2 hg2 hm2 ha hb hs hs2 hp) hs3) fun σ H Q ⟨ρ, env, S, er, s, h⟩ => tG_bindI er s h fun d S1 v ρ1 H1 st e1 s1 r1 h1 => tG_bindI e1 s1 h1 fun d2 S2 v2 ρ2 H2 st2 e2 s2 r2 h2 => by
    unfold revRg at h2
    split at h2
    · rename_i i j
      cases r1; cases r2
      split at h2
      · rename_i hb
        exact ⟨i, j, rfl, rfl, hb.1, hb.2.1, hb.2.2.1, hb.2.2.2, h2 _ ρ2 H2 (Stp.refl _ _) s2 wk_rangeC⟩
      · exact h2.elim
    · exact h2.elim
theorem ix_revR1 (hg : Gl X "reversed") (hm : X.mg "reversed" = none) (hg2 : Gl X "range") (hm2 : X.mg "range" = none) (ha : EX X raw W a fa)
    (hs : starEach [a] X.env = (false, eval a X.env) :: starEach [] X.env := by rfl)
    (hs3 : starEach [.Call (.Name "range" p2) [a] [] pos2] X.env = (false, eval (.Call (.Name "range" p2) [a] [] pos2) X.env) :: starEach [] X.env := by rfl) :
    IX X raw W tg (.Call (.Name "reversed" p) [.Call (.Name "range" p2) [a] [] pos2] [] pos) (dRevR1 fa) :=
  PI.imp (pi_revR hg hm (prg_1 hg2 hm2 ha hs) hs3) fun σ H Q ⟨ρ, env, S, er, s, h⟩ => tG_bindI er s h fun d S1 v ρ1 H1 st e1 s1 r1 h1 => by
    unfold revRg1 at h1
    split at h1
    · rename_i j
      cases r1
      split at h1
      · rename_i hb
        exact ⟨j, rfl, by decide, by decide, hb.1, hb.2, h1 _ ρ1 H1 (Stp.refl _ _) s1 wk_rangeC⟩
      · exact h1.elim
    · exact h1.elim
end
end RL

namespace RL
open PySem PySem.Spec PyProof.Rows L2
/-! ### list(reversed(list)) -/
section
variable {prog : Program} {w : World} {A : Around} {s : Shared} {R : Result → Shared → Prop}
theorem extend_rev {it l : Addr} {items : Array Value} (hh : A.handled = none) (hit : s.heap.IsRevIter it l ((items.size : Int) - 1)) (hl : s.heap.IsList l items) (hne : l ≠ it) (hn : items.size ≤ sizeLine) (S : Addr) (res : Value) (c₀ : Nat) (hSi : S ≠ it) (hSl : S ≠ l)
    (hS : s.heap.get? S = some { cls := .type "list", data := .seq #[] c₀ })
    (hR : ∀ (h' : Heap) (tk : Nat) (acc' : Array Value) (c' : Nat), (∀ b o, b ≠ S → b ≠ it → s.heap.get? b = some o → h'.get? b = some o) → h'.get? S = some { cls := .type "list", dict := none, data := .seq acc' c', slots := #[] } → ItemsOf (fun i v => items[items.size - 1 - i]? = some v) acc' items.size → R (.ok (.ret res)) { s with heap := h', toks := tk }) :
    wpAny (model prog w) A.in1 (Builtin.List.listExtendWith (.ref S) (.ref it) res)
      (fun fin s' => match fin with | .done f => R (.ok f) s' | .again c' => c'.quiet = true ∧ codeAny (model prog w) A c' R s') (fun e s' => R (.error e) s') s := by
  have W := (Walks.listRev (prog := prog) (w := w) (A := A.in1) hh it l hne items).toS
  have hSf : S ∉ [it, l] := by simp only [List.mem_cons, List.not_mem_nil, or_false, not_or]; exact ⟨hSi, hSl⟩
  have hT : s.TypeIs (.ref it) "list_reverseiterator" := Heap.IsRevIter.typeIs hit
  have h1 : Builtin.List.listSameRef (.ref S) (.ref it) = false := by simp [Builtin.List.listSameRef, hSi]
  unfold Builtin.List.listExtendWith
  refine wpAny_bind (wpAny_typeOf hT ?_)
  rw [if_neg (by rw [h1]; decide)]
  refine wpAny_bind (wpAny_pyIter_revIter hit ?_)
  refine wpAny_bind (wpAny_holding ?_)
  unfold Builtin.List.listLengthHint
  refine wpAny_bind (wpAny_specialOf hT RT.nolen_lri ?_)
  show wpAny _ A.in1 (specialOf (Value.ref it) (Str.ofString "__length_hint__") >>= _) _ _ _
  refine wpAny_bind (wpAny_specialOf hT RT.hint_lri ?_)
  generalize hid : ("list_reverseiterator.__length_hint__" : String) = id0
  wp_delta
  rw [show splitId id0 = some ("list_reverseiterator", "__length_hint__") from by subst hid; decide +kernel]
  subst hid
  refine wpAny_bind (wpAny_isInstance (b := true) hT (by rw [isSubtype_type]; kernel_rfl) ?_)
  refine wpAny_pure ?_
  rw [if_neg (by decide)]
  have e0 : ((items.size : Nat) : Int) - 1 - ((0 : Nat) : Int) = (items.size : Int) - 1 := by omega
  refine wpAny_pure ⟨plainId_quiet F.plain_extend_loop _, codeAny_extend_loopS W hn _ hSf _ items.size 0 _ _ _ rfl (Nat.zero_le _) ⟨Nat.zero_le _, by rw [e0]; exact hit, hl⟩ hS (ItemsOf.nil _) fun s' acc' c' hm hS' hacc => ?_⟩
  rw [Moved.eq_with hm]
  refine hR s'.heap s'.toks acc' c' (fun b o hb hb2 e => hm.heap b o (fun hmem => ?_) e) hS' hacc
  rcases List.mem_cons.mp hmem with e' | hmem
  · exact hb e'
  · exact hb2 (List.mem_singleton.mp hmem)
theorem init_rev {it l : Addr} {items : Array Value} (hh : A.handled = none) (hit : s.heap.IsRevIter it l ((items.size : Int) - 1)) (hl : s.heap.IsList l items) (hne : l ≠ it) (hn : items.size ≤ sizeLine) (S : Addr) (hSi : S ≠ it) (hSl : S ≠ l)
    (hS : s.heap.get? S = some { cls := .type "list", data := .seq #[] })
    (hR : ∀ (h' : Heap) (tk : Nat) (acc' : Array Value) (c' : Nat), (∀ b o, b ≠ S → b ≠ it → s.heap.get? b = some o → h'.get? b = some o) → h'.get? S = some { cls := .type "list", dict := none, data := .seq acc' c', slots := #[] } → ItemsOf (fun i v => items[items.size - 1 - i]? = some v) acc' items.size → R (.ok (.ret .none)) { s with heap := h', toks := tk }) :
    wpAny (model prog w) A.in1 (Builtin.«list.__init__» ⟨[.ref S, .ref it], []⟩)
      (fun fin s' => match fin with | .done f => R (.ok f) s' | .again c' => c'.quiet = true ∧ codeAny (model prog w) A c' R s') (fun e s' => R (.error e) s') s := by
  show wpAny _ A.in1 (do let old ← Builtin.List.listItems (.ref S); Builtin.List.listUpdate (.ref S) (fun _ => #[]); letGo old.toList.reverse; Builtin.List.listExtendWith (.ref S) (.ref it) .none) _ _ s
  refine wpAny_bind ?_
  unfold Builtin.List.listItems
  refine wpAny_bind (wpAny_seqItems hS rfl (wpAny_pure ?_))
  show wpAny _ A.in1 (updateSeq S (fun _ => #[]) >>= fun _ => letGo (#[] : Array Value).toList.reverse >>= fun _ => Builtin.List.listExtendWith (.ref S) (.ref it) .none) _ _ s
  refine wpAny_bind (wpAny_updateSeq hS rfl ?_)
  have hS₂ := Heap.get?_update_self (Obj.mapSeq (fun _ => (#[] : Array Value))) hS rfl
  have oth : ∀ b o, b ≠ S → s.heap.get? b = some o → (s.heap.update S (Obj.mapSeq (fun _ => (#[] : Array Value)))).get? b = some o :=
    fun b o hb e => (Heap.get?_update_other _ _ (Ne.symm hb)).trans e
  refine wpAny_bind (wpAny_letGo ?_)
  obtain ⟨ol, hol, hlr⟩ := id hl
  refine extend_rev (s := { s with heap := s.heap.update S (Obj.mapSeq (fun _ => (#[] : Array Value))) }) hh (hit.at fun o e => oth it o (Ne.symm hSi) e) ⟨ol, oth l ol (Ne.symm hSl) hol, hlr⟩ hne hn S .none _ hSi hSl hS₂ fun h' tk acc' c' hk hS' hacc => ?_
  exact hR h' tk acc' c' (fun b o hb hb2 e => hk b o hb hb2 (oth b o hb e)) hS' hacc
theorem call_list_rev {E : Value → Shared → Prop} {it l : Addr} {items : Array Value} {Q : Value → Shared → Prop} (hh : A.handled = none) (hit : s.heap.IsRevIter it l ((items.size : Int) - 1)) (hl : s.heap.IsList l items) (hne : l ≠ it) (hn : items.size ≤ sizeLine)
    (hQ : ∀ (h' : Heap) (tk : Nat) (acc' : Array Value) (c' : Nat), (∀ b o, b ≠ it → s.heap.get? b = some o → h'.get? b = some o) → h'.get? s.heap.objs.size = some { cls := .type "list", dict := none, data := .seq acc' c', slots := #[] } → ItemsOf (fun i v => items[items.size - 1 - i]? = some v) acc' items.size → Q (.ref s.heap.objs.size) { s with heap := h', toks := tk }) :
    wpAny (model prog w) A (call (.type "list") [.ref it]) Q E s := by
  obtain ⟨oi, hoi, _⟩ := id hit
  obtain ⟨ol, hol, _⟩ := id hl
  refine callType_codes (Q₁ := fun obj s₁ => obj = .ref s.heap.objs.size ∧ s₁ = { s with heap := s.heap.push { cls := .type "list", data := .seq #[] } }) F.called_list (F.typeCall_list_1 _) F.entry_list_init
    (code_list_new _ ⟨rfl, rfl⟩) fun obj s₁ h₁ => ?_
  obtain ⟨rfl, rfl⟩ := h₁
  have hS : (s.heap.push { cls := .type "list", data := .seq #[] }).get? s.heap.objs.size = some { cls := .type "list", data := .seq #[] } := Heap.get?_push_size _ rfl
  refine ⟨⟨_, hS, rfl⟩, F.args_list_init_2 _ _, init_rev (A := A.in1) (s := { s with heap := s.heap.push { cls := .type "list", data := .seq #[] } }) hh (hit.at fun o e => Heap.get?_push_of_some _ e) (hl.push _) hne hn _ (Nat.ne_of_gt (Heap.lt_size hoi)) (Nat.ne_of_gt (Heap.lt_size hol)) hS fun h' tk acc' c' hk hS' hacc => ?_⟩
  exact ⟨rfl, hQ h' tk acc' c' (fun b o hb e => hk b o (Nat.ne_of_lt (Heap.lt_size e)) hb (Heap.get?_push_of_some _ e)) hS' hacc⟩
end
/-- list(reversed(x)), x a list -/
def tListRev (K : PySem.W.Frag) (te : TE) : TE := fun σ H Q => te σ H fun v H1 => ∃ (a : Addr) (xs : List V), v = .ref a ∧ SqL K H1 a xs ∧ ∀ q, H1 q = none → Q (.ref q) (upd H1 q (.lst xs.reverse))
section
variable {X : Cx}
theorem pe_listRev {e : Expr} {te : TE} {p p2 pos pos2 : Pos} (hc : X.calm = true) (hg : Gl X "list") (hm : X.mg "list" = none) (hg2 : Gl X "reversed") (hm2 : X.mg "reversed" = none) (he : PE X e te)
    (hs : starEach [e] X.env = (false, eval e X.env) :: starEach [] X.env := by rfl)
    (hs2 : starEach [.Call (.Name "reversed" p2) [e] [] pos2] X.env = (false, eval (.Call (.Name "reversed" p2) [e] [] pos2) X.env) :: starEach [] X.env := by rfl) :
    PE X (.Call (.Name "list" p) [.Call (.Name "reversed" p2) [e] [] pos2] [] pos) (tListRev X.K te) := by
  refine ⟨fun pins s σ H Q I h => ?_⟩
  refine Call_ (ld_blt I hg hm boot_list (PyProof.Rows.callWith_type1 (args_cons (Call_ (ld_blt I hg2 hm2 PyProof.Rows.boot_reversed (PyProof.Rows.callWith_type1 (args_cons (thn (he.run pins s σ H _ I h) fun u s1 ⟨v, H1, I1, r1, q1⟩ => args_nil ?_) hs) hs rfl))) hs2) hs2 rfl))
  obtain ⟨a, xs, ev, hq, q⟩ := q1
  subst ev
  obtain rfl : u = Value.ref a := r1
  obtain ⟨its, rv, p', hz⟩ := I1.list hq
  refine call_reversed_list p'.isList (args_nil ?_)
  have k0 : ∀ b o, s1.heap.get? b = some o → (s1.heap.push (revObj a ((its.toArray.size : Int) - 1))).get? b = some o := fun b o e => Heap.get?_push_of_some _ e
  have I2 : Inv X pins σ H1 { s1 with heap := s1.heap.push (revObj a ((its.toArray.size : Int) - 1)) } := I1.kept (t' := s1.toks) k0
  have fp := I1.fpOk (H' := H1) (b := s1.heap.objs.size) (Nat.le_refl _) (I1.hok.fresh (Nat.le_refl _))
  have hl := p'.isList
  obtain ⟨ol, hol, _⟩ := id hl
  have hne : a ≠ s1.heap.objs.size := Nat.ne_of_lt (Heap.lt_size hol)
  have hn : its.toArray.size ≤ sizeLine := by rw [List.size_toArray, ← rv.length]; exact hz
  refine call_list_rev (s := { s1 with heap := s1.heap.push (revObj a ((its.toArray.size : Int) - 1)) }) (I1.ok.hd hc) ⟨_, Heap.get?_push_size _ rfl, rfl, rfl⟩ (hl.push _) hne hn fun h' tk acc c' hk hS hi => ?_
  have hT : (s1.heap.push (revObj a ((its.toArray.size : Int) - 1))).objs.size ≤ (s1.heap.push (revObj a ((its.toArray.size : Int) - 1))).objs.size := Nat.le_refl _
  refine ⟨.ref _, upd H1 _ (.lst xs.reverse), I2.turnedNew (t' := tk) (ch := [s1.heap.objs.size]) (h' := h') (fun b o hb e => hk b o (fun z => hb (by rw [z]; exact List.mem_cons_self)) e) (fun b hb => by rw [List.mem_singleton.mp hb]; exact fp) hT (show ObjOk X.prog X.w _ h' _ (.lst xs.reverse) from ⟨by rw [List.length_reverse]; exact hz, acc.toList, c', RT.vals_rev rv hi, by rw [Array.toArray_toList]; exact hS⟩), rfl, q _ (I2.hok.fresh hT)⟩
end
/-! the layer's -/
def revL (d : D) (S : Sto) : R D := match d with
  | .ref n => match S[n]? with
    | some (.lst ds) => .ok (.ref S.length) (S ++ [.lst ds.reverse])
    | _ => .err
  | _ => .err
def dListRev (fa : DE) : DE := fun env S => (fa env S).bind revL
section
variable {X : Cx} {raw : List (Nat × V)} {W : WX} {pos p p2 pos2 : Pos} {a : Expr} {fa : DE}
theorem ex_listRev (hc : X.calm = true) (hg : Gl X "list") (hm : X.mg "list" = none) (hg2 : Gl X "reversed") (hm2 : X.mg "reversed" = none) (ha : EX X raw W a fa)
    (hs : starEach [a] X.env = (false, eval a X.env) :: starEach [] X.env := by rfl)
    (hs2 : starEach [.Call (.Name "reversed" p2) [a] [] pos2] X.env = (false, eval (.Call (.Name "reversed" p2) [a] [] pos2) X.env) :: starEach [] X.env := by rfl) :
    EX X raw W (.Call (.Name "list" p) [.Call (.Name "reversed" p2) [a] [] pos2] [] pos) (dListRev fa) :=
  PE.imp (pe_listRev hc hg hm hg2 hm2 ha hs hs2) fun σ H Q ⟨ρ, env, S, er, s, h⟩ => tG_bind er s h fun d S1 v ρ1 H1 st e1 s1 r1 h1 => by
    unfold revL at h1
    split at h1
    · rename_i n
      cases hS : S1[n]? with
      | none => rw [hS] at h1; exact h1.elim
      | some o =>
        rw [hS] at h1
        cases o with
        | lst ds =>
          cases r1 with
          | ref hn =>
            obtain ⟨xs, hx, l⟩ := s1.ob n _ _ hS hn
            exact ⟨_, xs, rfl, .of hx, post_lst h1 s1 l.reverse⟩
        | _ => exact h1.elim
    · exact h1.elim
end
end RL

namespace RL
open PySem PySem.Spec PyProof.Rows L2
theorem ofString_inj' {a b : String} (h : Str.ofString a = Str.ofString b) : a = b := by
  rw [Str.ofString_eq_toList, Str.ofString_eq_toList] at h
  have h1 : a.toList.map Char.toNat = b.toList.map Char.toNat := by
    have := congrArg Str.cps h
    simpa using congrArg Array.toList this
  exact String.toList_inj.mp (List.map_inj_right (fun x y e => Char.ext (UInt32.toNat_inj.mp e)) |>.mp h1)
@[simp] theorem ofString_inj {a b : String} : Str.ofString a = Str.ofString b ↔ a = b := ⟨ofString_inj', fun h => by rw [h]⟩
@[simp] theorem ofString_beq {a b : String} : (Str.ofString a == Str.ofString b) = (a == b) := by rw [Bool.eq_iff_iff]; simp
/-! ### reckoning with mirrors: rewriting rules -/
section
variable {α β : Type} {env : RL.Env} {S : Sto} {f g : DS} {fe fa fb fc : DE} {ta tb : DT} {fs : DA}
def Fl.seq : Fl → DS → Fl
  | .nx e S, g => g e S
  | r, _ => r
@[simp] theorem Fl.seq_nx {e : RL.Env} : Fl.seq (.nx e S) g = g e S := rfl
@[simp] theorem Fl.seq_rt {d : D} : Fl.seq (.rt d S) g = .rt d S := rfl
@[simp] theorem Fl.seq_bk {e : RL.Env} : Fl.seq (.bk e S) g = .bk e S := rfl
@[simp] theorem Fl.seq_ct {e : RL.Env} : Fl.seq (.ct e S) g = .ct e S := rfl
@[simp] theorem Fl.seq_exc {c : Str} {e : RL.Env} : Fl.seq (.exc c e S) g = .exc c e S := rfl
@[simp] theorem Fl.seq_err : Fl.seq .err g = .err := rfl
@[simp] theorem dSeq_eq : dSeq f g env S = Fl.seq (f env S) g := by unfold dSeq Fl.seq; cases f env S <;> rfl
def Fl.toR : Fl → R D
  | .nx _ S => .ok .non S
  | .rt d S => .ok d S
  | .exc c _ S => .exc c S
  | _ => .err
@[simp] theorem Fl.toR_nx {e : RL.Env} : Fl.toR (.nx e S) = .ok .non S := rfl
@[simp] theorem Fl.toR_rt {d : D} : Fl.toR (.rt d S) = .ok d S := rfl
@[simp] theorem Fl.toR_exc {c : Str} {e : RL.Env} : Fl.toR (.exc c e S) = .exc c S := rfl
@[simp] theorem Fl.toR_err : Fl.toR .err = .err := rfl
theorem runB_eq {n : Nat} {ds : List D} : runB n f ds S = Fl.toR (f (ds.map some ++ List.replicate (n - ds.length) none) S) := by unfold runB Fl.toR; rfl
@[simp] theorem dSkip_eq : dSkip env S = .nx env S := rfl
@[simp] theorem dBreak_eq : dBreak env S = .bk env S := rfl
@[simp] theorem dCont_eq : dCont env S = .ct env S := rfl
@[simp] theorem dRetN_eq : dRetN env S = .rt .non S := rfl
@[simp] theorem dRaise_eq {c : Str} : dRaise c env S = .exc c env S := rfl
@[simp] theorem dDrop_eq : dDrop fe env S = thenS (fe env S) env fun _ S' => .nx env S' := rfl
@[simp] theorem dRet_eq : dRet fe env S = thenS (fe env S) env fun d S' => .rt d S' := rfl
@[simp] theorem dIf_eq : dIf ta f g env S = thenS (ta env S) env fun k S' => if k = true then f env S' else g env S' := rfl
@[simp] theorem dSet_eq {i : Nat} : dSet i fe env S = thenS (fe env S) env fun d S' => .nx (env.set i (some d)) S' := rfl
@[simp] theorem dAsg_eq {t : DG} : dAsg fe t env S = thenS (fe env S) env fun d S1 => asFl env (t d env S1) := rfl
@[simp] theorem asFl_ok {e : RL.Env} : asFl env (.ok e S) = .nx e S := rfl
@[simp] theorem asFl_err : asFl env .err = .err := rfl
@[simp] theorem noEx_ok {a : α} : noEx (.ok a S) = .ok a S := rfl
@[simp] theorem noEx_exc {c : Str} : noEx (.exc c S : R α) = .err := rfl
@[simp] theorem noEx_err : noEx (.err : R α) = .err := rfl
@[simp] theorem sName_eq {i : Nat} {d : D} : sName i d env S = .ok (env.set i (some d)) S := rfl
@[simp] theorem sSub_eq {d : D} : sSub fa fb d env S = (noEx (fa env S)).bind fun o S1 => (noEx (fb env S1)).bind fun i S2 => (setI o i d S2).bind fun _ S3 => .ok env S3 := rfl
@[simp] theorem sTup_eq {n : Nat} {t : DGs} {ds : List D} : sTup n t (.tup ds) env S = if ds.length = n then t ds env S else .err := rfl
@[simp] theorem sTupA_tup {n : Nat} {t : DGs} {ds : List D} : sTupA n t (.tup ds) env S = if ds.length = n then t ds env S else .err := rfl
theorem sTupA_ref {n k : Nat} {t : DGs} {ds : List D} (h : S[k]? = some (.lst ds)) : sTupA n t (.ref k) env S = if ds.length = n then t ds env S else .err := by unfold sTupA; simp only [h]
@[simp] theorem sCons_eq {t : DG} {u : DGs} {d : D} {ds : List D} : sCons t u (d :: ds) env S = (t d env S).bind fun e S1 => u ds e S1 := rfl
@[simp] theorem sNil_eq : sNil [] env S = .ok env S := rfl
def setO (n : Nat) (i v : D) (S : Sto) : Option O → R Unit
  | some (.lst ds) => match i with
      | .int k => match ixN ds.length k with
        | some j => .ok () (S.set n (.lst (ds.set j v)))
        | none => .err
      | _ => .err
  | some (.dict kvs) => if isKey i = true ∧ kvs.length < lim then .ok () (S.set n (.dict (putD kvs i v))) else .err
  | _ => .err
@[simp] theorem setI_ref {n : Nat} {i v : D} : setI (.ref n) i v S = setO n i v S S[n]? := by
  unfold setI setO; rfl
def setL (n : Nat) (ds : List D) (v : D) (S : Sto) : Option Nat → R Unit
  | some j => .ok () (S.set n (.lst (ds.set j v)))
  | none => .err
@[simp] theorem setO_lst {n : Nat} {k : Int} {v : D} {ds : List D} : setO n (.int k) v S (some (.lst ds)) = setL n ds v S (ixN ds.length k) := rfl
@[simp] theorem setL_some {n j : Nat} {v : D} {ds : List D} : setL n ds v S (some j) = .ok () (S.set n (.lst (ds.set j v))) := rfl
@[simp] theorem setO_dict {n : Nat} {k v : D} {kvs : List (D × D)} : setO n k v S (some (.dict kvs)) = if isKey k = true ∧ kvs.length < lim then .ok () (S.set n (.dict (putD kvs k v))) else .err := rfl
@[simp] theorem isKey_int {i : Int} : isKey (.int i) = true := rfl
@[simp] theorem isKey_str {i : Str} : isKey (.str i) = true := rfl
@[simp] theorem dBin_eq {h : G2} : dBin h fa fb env S = (fa env S).bind fun x S1 => (fb env S1).bind fun y S2 => h x y S2 := rfl
@[simp] theorem dUn_eq {h : G1} : dUn h fa env S = (fa env S).bind fun x S1 => h x S1 := rfl
@[simp] theorem dT_eq : dT fe env S = asB (fe env S) := rfl
@[simp] theorem asB_exc {c : Str} : asB (.exc c S) = .exc c S := rfl
@[simp] theorem asB_err : asB .err = .err := rfl
@[simp] theorem dAnd_eq : dAnd ta tb env S = (ta env S).bind fun k S1 => if k = true then tb env S1 else .ok false S1 := rfl
@[simp] theorem dOr_eq : dOr ta tb env S = (ta env S).bind fun k S1 => if k = true then .ok true S1 else tb env S1 := rfl
@[simp] theorem dNot_eq : dNot ta env S = (ta env S).bind fun k S1 => .ok (!k) S1 := rfl
@[simp] theorem dAndV_eq : dAndV fa fb env S = (asB (fa env S)).bind fun k S1 => if k = true then fb env S1 else .ok (.bl false) S1 := rfl
@[simp] theorem dOrV_eq : dOrV fa fb env S = (asB (fa env S)).bind fun k S1 => if k = true then .ok (.bl true) S1 else fb env S1 := rfl
@[simp] theorem dNotV_eq : dNotV fa env S = (asB (fa env S)).bind fun k S1 => .ok (.bl (!k)) S1 := rfl
@[simp] theorem dIfE_eq : dIfE ta fa fb env S = (ta env S).bind fun k S1 => if k = true then fa env S1 else fb env S1 := rfl
@[simp] theorem dChain_eq {h h' : G2} : dChain h h' fa fb fc env S = (fa env S).bind fun x S1 => (fb env S1).bind fun y S2 => (asB (h x y S2)).bind fun k S3 => if k = true then (fc env S3).bind fun z S4 => h' y z S4 else .ok (.bl false) S3 := rfl
def getE (S : Sto) : Option (Option D) → R D
  | some (some d) => .ok d S
  | _ => .err
@[simp] theorem getE_some {d : D} : getE S (some (some d)) = .ok d S := rfl
@[simp] theorem dV_eq {i : Nat} : dV i env S = getE S env[i]? := rfl
@[simp] theorem dC_eq {d : D} : dC d env S = .ok d S := rfl
@[simp] theorem dNilA_eq : dNilA env S = .ok [] S := rfl
@[simp] theorem dConsA_eq : dConsA fe fs env S = (fe env S).bind fun x S1 => (fs env S1).bind fun xs S2 => .ok (x :: xs) S2 := rfl
@[simp] theorem dTup_eq : dTup fs env S = (fs env S).bind newT := rfl
@[simp] theorem dLst_eq : dLst fs env S = (fs env S).bind newL := rfl
theorem newT_ok {ds : List D} (h : ds.length ≤ 1000) : newT ds S = .ok (.tup ds) S := by unfold newT; rw [if_pos (by unfold lim; omega)]
theorem newL_ok {ds : List D} (h : ds.length ≤ 1000) : newL ds S = .ok (.ref S.length) (S ++ [.lst ds]) := by unfold newL; rw [if_pos (by unfold lim; omega)]
@[simp] theorem newT0 : newT [] S = .ok (.tup []) S := newT_ok (by simp)
@[simp] theorem newL0 : newL [] S = .ok (.ref S.length) (S ++ [.lst []]) := newL_ok (by simp)
@[simp] theorem dCB_eq {h : GA} : dCB h fs env S = (fs env S).bind h := rfl
@[simp] theorem dCall_eq {n : Nat} {m : Fn} : dCall n m fs env S = (fs env S).bind fun ds S1 => if ds.length = n then m ds S1 else .err := rfl
-- ints
@[simp] theorem gAdd_int {i j : Int} : gAdd (.int i) (.int j) S = .ok (.int (i + j)) S := rfl
@[simp] theorem gSub_int {i j : Int} : RL.gSub (.int i) (.int j) S = .ok (.int (i - j)) S := rfl
theorem gMul_int {i j : Int} (h : i.natAbs < 2 ^ 200 ∧ j.natAbs < 2 ^ 200) : gMul (.int i) (.int j) S = .ok (.int (i * j)) S := by
  unfold gMul
  have a : ∀ n : Nat, n < 2 ^ 200 → n.log2 ≤ 200 := fun n hn => by
    by_cases z : n = 0
    · subst z; decide
    · exact Nat.le_of_lt ((Nat.log2_lt z).mpr hn)
  have h1 := a _ h.1
  have h2 := a _ h.2
  dsimp only
  rw [if_pos (by omega)]
theorem gDiv_int {i j : Int} (h : 0 < j) (h2 : j < 2 ^ 200) : gDiv (.int i) (.int j) S = .ok (.int (i / j)) S := by
  unfold gDiv
  have a : j.natAbs.log2 < 9000 := by
    have : j.natAbs < 2 ^ 200 := by omega
    by_cases z : j.natAbs = 0
    · rw [z]; decide
    · exact Nat.lt_of_lt_of_le ((Nat.log2_lt z).mpr this) (by decide)
  dsimp only
  rw [if_pos ⟨h, a⟩]
theorem gMod_int {i j : Int} (h : 0 < j) : gMod (.int i) (.int j) S = .ok (.int (i % j)) S := by
  unfold gMod; dsimp only; rw [if_pos h]
@[simp] theorem gPow_10 : gPow (.int 10) (.int 9) S = .ok (.int 1000000000) S := rfl
@[simp] theorem gPow_10_6 : gPow (.int 10) (.int 6) S = .ok (.int 1000000) S := rfl
@[simp] theorem gPow_10_12 : gPow (.int 10) (.int 12) S = .ok (.int 1000000000000) S := rfl
@[simp] theorem gPow_10_18 : gPow (.int 10) (.int 18) S = .ok (.int 1000000000000000000) S := rfl
@[simp] theorem gNeg_int {i : Int} : gNeg (.int i) S = .ok (.int (-i)) S := rfl
@[simp] theorem gCmp_int {p : Int → Int → Bool} {i j : Int} : gCmp p (.int i) (.int j) S = .ok (.bl (p i j)) S := rfl
@[simp] theorem gEq_int {i j : Int} : gEq (.int i) (.int j) S = .ok (.bl (decide (i = j))) S := rfl
@[simp] theorem gEq_str {i j : Str} : gEq (.str i) (.str j) S = .ok (.bl (decide (i = j))) S := rfl
@[simp] theorem gEq_bl {i j : Bool} : gEq (.bl i) (.bl j) S = .ok (.bl (decide (i = j))) S := rfl
@[simp] theorem gNe_int {i j : Int} : gNe (.int i) (.int j) S = .ok (.bl (!decide (i = j))) S := rfl
@[simp] theorem gNe_str {i j : Str} : gNe (.str i) (.str j) S = .ok (.bl (!decide (i = j))) S := rfl
@[simp] theorem gNe_bl {i j : Bool} : gNe (.bl i) (.bl j) S = .ok (.bl (!decide (i = j))) S := rfl
@[simp] theorem gIsN_eq {x : D} : gIsN x .non S = .ok (.bl (isNon x)) S := rfl
@[simp] theorem gNotN_eq {x : D} : gNotN x .non S = .ok (.bl (!isNon x)) S := rfl
@[simp] theorem gIsB_eq {a b : Bool} : gIsB (.bl a) (.bl b) S = .ok (.bl (decide (a = b))) S := rfl
@[simp] theorem isNon_non : isNon .non = true := rfl
@[simp] theorem isNon_int {i : Int} : isNon (.int i) = false := rfl
@[simp] theorem isNon_str {i : Str} : isNon (.str i) = false := rfl
@[simp] theorem isNon_bl {i : Bool} : isNon (.bl i) = false := rfl
@[simp] theorem isNon_tup {i : List D} : isNon (.tup i) = false := rfl
@[simp] theorem isNon_ref {i : Nat} : isNon (.ref i) = false := rfl
theorem gAdd_str {a b : Str} : gAdd (.str a) (.str b) S = if a.length + b.length ≤ lim then .ok (.str (a ++ b)) S else .err := rfl
theorem gAdd_tup {a b : List D} : gAdd (.tup a) (.tup b) S = if a.length + b.length ≤ lim then .ok (.tup (a ++ b)) S else .err := rfl
def addO (S : Sto) : Option O → Option O → R D
  | some (.lst a), some (.lst b) => if a.length + b.length ≤ lim then .ok (.ref S.length) (S ++ [.lst (a ++ b)]) else .err
  | _, _ => .err
@[simp] theorem gAdd_ref {n m : Nat} : gAdd (.ref n) (.ref m) S = addO S S[n]? S[m]? := by unfold gAdd addO; rfl
theorem addO_lst {a b : List D} : addO S (some (.lst a)) (some (.lst b)) = if a.length + b.length ≤ lim then .ok (.ref S.length) (S ++ [.lst (a ++ b)]) else .err := rfl
-- x[i]
def ixR (S : Sto) : Option D → R D
  | some d => .ok d S
  | none => .err
@[simp] theorem ixR_some {d : D} : ixR S (some d) = .ok d S := rfl
def ixO (k : D) (S : Sto) : Option O → R D
  | some (.lst ds) => match k with
      | .int i => match L2.atI ds i with
        | some d => .ok d S
        | none => .err
      | _ => .err
  | some (.dict kvs) => if isKey k = true then (match findK kvs k with
      | some d => .ok d S
      | none => .err) else .err
  | some (.fd kvs) => if isKey k = true then (match findK kvs k with
      | some d => .ok d S
      | none => .err) else .err
  | _ => .err
@[simp] theorem gIx_ref {n : Nat} {k : D} : gIx (.ref n) k S = ixO k S S[n]? := by unfold gIx ixO; cases k <;> rfl
@[simp] theorem ixO_lst {ds : List D} {i : Int} : ixO (.int i) S (some (.lst ds)) = ixR S (L2.atI ds i) := rfl
@[simp] theorem ixO_dict {kvs : List (D × D)} {k : D} : ixO k S (some (.dict kvs)) = if isKey k = true then ixR S (findK kvs k) else .err := rfl
@[simp] theorem ixO_fd {kvs : List (D × D)} {k : D} : ixO k S (some (.fd kvs)) = if isKey k = true then ixR S (findK kvs k) else .err := rfl
@[simp] theorem gIx_tup {ds : List D} {i : Int} : gIx (.tup ds) (.int i) S = ixR S (L2.atI ds i) := rfl
@[simp] theorem gIx_scr {ds : List D} {i : Int} : gIx (.scr ds) (.int i) S = ixR S (L2.atI ds i) := rfl
@[simp] theorem atI_0 {xs : List α} : L2.atI xs 0 = xs[0]? := by cases xs <;> simp [L2.atI, ixN]
theorem atI_natCast {xs : List α} {k : Nat} : L2.atI xs (k : Int) = xs[k]? := by
  unfold L2.atI ixN
  by_cases h : k < xs.length
  · simp [h]
  · simp [h]
@[simp] theorem atI_1 {xs : List α} : L2.atI xs 1 = xs[1]? := atI_natCast (k := 1)
@[simp] theorem atI_2 {xs : List α} : L2.atI xs 2 = xs[2]? := atI_natCast (k := 2)
@[simp] theorem atI_3 {xs : List α} : L2.atI xs 3 = xs[3]? := atI_natCast (k := 3)
@[simp] theorem atI_4 {xs : List α} : L2.atI xs 4 = xs[4]? := atI_natCast (k := 4)
@[simp] theorem atI_5 {xs : List α} : L2.atI xs 5 = xs[5]? := atI_natCast (k := 5)
@[simp] theorem atI_6 {xs : List α} : L2.atI xs 6 = xs[6]? := atI_natCast (k := 6)
@[simp] theorem atI_7 {xs : List α} : L2.atI xs 7 = xs[7]? := atI_natCast (k := 7)
@[simp] theorem atI_8 {xs : List α} : L2.atI xs 8 = xs[8]? := atI_natCast (k := 8)
@[simp] theorem atI_9 {xs : List α} : L2.atI xs 9 = xs[9]? := atI_natCast (k := 9)
@[simp] theorem atI_10 {xs : List α} : L2.atI xs 10 = xs[10]? := atI_natCast (k := 10)
@[simp] theorem atI_11 {xs : List α} : L2.atI xs 11 = xs[11]? := atI_natCast (k := 11)
@[simp] theorem atI_12 {xs : List α} : L2.atI xs 12 = xs[12]? := atI_natCast (k := 12)
@[simp] theorem atI_13 {xs : List α} : L2.atI xs 13 = xs[13]? := atI_natCast (k := 13)
@[simp] theorem atI_14 {xs : List α} : L2.atI xs 14 = xs[14]? := atI_natCast (k := 14)
@[simp] theorem atI_15 {xs : List α} : L2.atI xs 15 = xs[15]? := atI_natCast (k := 15)
@[simp] theorem atI_16 {xs : List α} : L2.atI xs 16 = xs[16]? := atI_natCast (k := 16)
@[simp] theorem atI_17 {xs : List α} : L2.atI xs 17 = xs[17]? := atI_natCast (k := 17)
@[simp] theorem atI_18 {xs : List α} : L2.atI xs 18 = xs[18]? := atI_natCast (k := 18)
@[simp] theorem atI_19 {xs : List α} : L2.atI xs 19 = xs[19]? := atI_natCast (k := 19)
@[simp] theorem atI_20 {xs : List α} : L2.atI xs 20 = xs[20]? := atI_natCast (k := 20)
@[simp] theorem atI_21 {xs : List α} : L2.atI xs 21 = xs[21]? := atI_natCast (k := 21)
@[simp] theorem atI_22 {xs : List α} : L2.atI xs 22 = xs[22]? := atI_natCast (k := 22)
@[simp] theorem atI_23 {xs : List α} : L2.atI xs 23 = xs[23]? := atI_natCast (k := 23)
@[simp] theorem atI_24 {xs : List α} : L2.atI xs 24 = xs[24]? := atI_natCast (k := 24)
@[simp] theorem atI_25 {xs : List α} : L2.atI xs 25 = xs[25]? := atI_natCast (k := 25)
@[simp] theorem atI_26 {xs : List α} : L2.atI xs 26 = xs[26]? := atI_natCast (k := 26)
@[simp] theorem atI_27 {xs : List α} : L2.atI xs 27 = xs[27]? := atI_natCast (k := 27)
@[simp] theorem atI_28 {xs : List α} : L2.atI xs 28 = xs[28]? := atI_natCast (k := 28)
@[simp] theorem atI_29 {xs : List α} : L2.atI xs 29 = xs[29]? := atI_natCast (k := 29)
@[simp] theorem atI_30 {xs : List α} : L2.atI xs 30 = xs[30]? := atI_natCast (k := 30)
theorem atI_neg {xs : List α} {d : α} (h : xs.getLast? = some d) : L2.atI xs (-1) = some d := by
  obtain ⟨l, rfl⟩ : ∃ l, xs = l ++ [d] := by
    rw [List.getLast?_eq_some_iff] at h
    exact h
  exact L2.atI_last l d
theorem atI_of {xs : List α} {i : Int} (h0 : 0 ≤ i) : L2.atI xs i = xs[i.toNat]? := by
  have := atI_natCast (xs := xs) (k := i.toNat)
  rwa [Int.toNat_of_nonneg h0] at this
theorem atI_mem {xs : List α} {i : Int} (h0 : 0 ≤ i) (h1 : i < xs.length) : ∃ d, L2.atI xs i = some d ∧ d ∈ xs := by
  rw [atI_of h0]
  have h : i.toNat < xs.length := by omega
  exact ⟨xs[i.toNat], List.getElem?_eq_getElem h, List.getElem_mem h⟩
theorem ixN_natCast {n k : Nat} (h : k < n) : ixN n (k : Int) = some k := by simp [ixN, h]
@[simp] theorem ixN_0 {n : Nat} (h : 0 < n) : ixN n 0 = some 0 := ixN_natCast (k := 0) h
@[simp] theorem ixN_1 {n : Nat} (h : 1 < n) : ixN n 1 = some 1 := ixN_natCast (k := 1) h
@[simp] theorem ixN_2 {n : Nat} (h : 2 < n) : ixN n 2 = some 2 := ixN_natCast (k := 2) h
@[simp] theorem ixN_3 {n : Nat} (h : 3 < n) : ixN n 3 = some 3 := ixN_natCast (k := 3) h
@[simp] theorem ixN_4 {n : Nat} (h : 4 < n) : ixN n 4 = some 4 := ixN_natCast (k := 4) h
@[simp] theorem ixN_5 {n : Nat} (h : 5 < n) : ixN n 5 = some 5 := ixN_natCast (k := 5) h
@[simp] theorem ixN_6 {n : Nat} (h : 6 < n) : ixN n 6 = some 6 := ixN_natCast (k := 6) h
@[simp] theorem ixN_7 {n : Nat} (h : 7 < n) : ixN n 7 = some 7 := ixN_natCast (k := 7) h
@[simp] theorem ixN_8 {n : Nat} (h : 8 < n) : ixN n 8 = some 8 := ixN_natCast (k := 8) h
@[simp] theorem ixN_9 {n : Nat} (h : 9 < n) : ixN n 9 = some 9 := ixN_natCast (k := 9) h
@[simp] theorem ixN_10 {n : Nat} (h : 10 < n) : ixN n 10 = some 10 := ixN_natCast (k := 10) h
@[simp] theorem ixN_11 {n : Nat} (h : 11 < n) : ixN n 11 = some 11 := ixN_natCast (k := 11) h
@[simp] theorem ixN_12 {n : Nat} (h : 12 < n) : ixN n 12 = some 12 := ixN_natCast (k := 12) h
@[simp] theorem ixN_13 {n : Nat} (h : 13 < n) : ixN n 13 = some 13 := ixN_natCast (k := 13) h
@[simp] theorem ixN_14 {n : Nat} (h : 14 < n) : ixN n 14 = some 14 := ixN_natCast (k := 14) h
@[simp] theorem ixN_15 {n : Nat} (h : 15 < n) : ixN n 15 = some 15 := ixN_natCast (k := 15) h
@[simp] theorem ixN_16 {n : Nat} (h : 16 < n) : ixN n 16 = some 16 := ixN_natCast (k := 16) h
@[simp] theorem ixN_17 {n : Nat} (h : 17 < n) : ixN n 17 = some 17 := ixN_natCast (k := 17) h
@[simp] theorem ixN_18 {n : Nat} (h : 18 < n) : ixN n 18 = some 18 := ixN_natCast (k := 18) h
@[simp] theorem ixN_19 {n : Nat} (h : 19 < n) : ixN n 19 = some 19 := ixN_natCast (k := 19) h
@[simp] theorem ixN_20 {n : Nat} (h : 20 < n) : ixN n 20 = some 20 := ixN_natCast (k := 20) h
@[simp] theorem ixN_21 {n : Nat} (h : 21 < n) : ixN n 21 = some 21 := ixN_natCast (k := 21) h
@[simp] theorem ixN_22 {n : Nat} (h : 22 < n) : ixN n 22 = some 22 := ixN_natCast (k := 22) h
@[simp] theorem ixN_23 {n : Nat} (h : 23 < n) : ixN n 23 = some 23 := ixN_natCast (k := 23) h
@[simp] theorem ixN_24 {n : Nat} (h : 24 < n) : ixN n 24 = some 24 := ixN_natCast (k := 24) h
@[simp] theorem ixN_25 {n : Nat} (h : 25 < n) : ixN n 25 = some 25 := ixN_natCast (k := 25) h
@[simp] theorem ixN_26 {n : Nat} (h : 26 < n) : ixN n 26 = some 26 := ixN_natCast (k := 26) h
@[simp] theorem ixN_27 {n : Nat} (h : 27 < n) : ixN n 27 = some 27 := ixN_natCast (k := 27) h
@[simp] theorem ixN_28 {n : Nat} (h : 28 < n) : ixN n 28 = some 28 := ixN_natCast (k := 28) h
@[simp] theorem ixN_29 {n : Nat} (h : 29 < n) : ixN n 29 = some 29 := ixN_natCast (k := 29) h
@[simp] theorem ixN_30 {n : Nat} (h : 30 < n) : ixN n 30 = some 30 := ixN_natCast (k := 30) h
theorem setAt {S : Sto} {n : Nat} (h : n < S.length) (o : O) : (S.set n o)[n]? = some o := List.getElem?_set_self h
-- in
@[simp] theorem gIn_tup {x : D} {ds : List D} (h : (flatD x && ds.all flatD) = true) : gIn x (.tup ds) S = .ok (.bl (ds.any fun e => eqF e x)) S := by
  unfold gIn inD; simp only [h, if_true]
@[simp] theorem gNotIn_tup {x : D} {ds : List D} (h : (flatD x && ds.all flatD) = true) : gNotIn x (.tup ds) S = .ok (.bl (!ds.any fun e => eqF e x)) S := by
  unfold gNotIn inD; simp only [h, if_true]
@[simp] theorem flatD_int {i : Int} : flatD (.int i) = true := rfl
@[simp] theorem flatD_str {i : Str} : flatD (.str i) = true := rfl
@[simp] theorem flatD_bl {i : Bool} : flatD (.bl i) = true := rfl
@[simp] theorem flatD_non : flatD .non = true := rfl
@[simp] theorem eqF_ii {i j : Int} : eqF (.int i) (.int j) = (i == j) := rfl
@[simp] theorem eqF_ss {i j : Str} : eqF (.str i) (.str j) = (i == j) := rfl
-- isinstance
@[simp] theorem gIsi_non {T : String} : gIsi T .non S = .ok (.bl (isiT "NoneType" T)) S := rfl
@[simp] theorem gIsi_bl {T : String} {b : Bool} : gIsi T (.bl b) S = .ok (.bl (isiT "bool" T)) S := rfl
@[simp] theorem gIsi_int {T : String} {b : Int} : gIsi T (.int b) S = .ok (.bl (isiT "int" T)) S := rfl
@[simp] theorem gIsi_str {T : String} {b : Str} : gIsi T (.str b) S = .ok (.bl (isiT "str" T)) S := rfl
@[simp] theorem gIsi_tup {T : String} {b : List D} : gIsi T (.tup b) S = .ok (.bl (isiT "tuple" T)) S := rfl
def isiO (T : String) (S : Sto) : Option O → R D
  | some (.lst _) => .ok (.bl (isiT "list" T)) S
  | some (.dict _) => .ok (.bl (isiT "dict" T)) S
  | some (.fd _) => .ok (.bl (isiT "dict" T)) S
  | _ => .err
@[simp] theorem gIsi_ref {T : String} {n : Nat} : gIsi T (.ref n) S = isiO T S S[n]? := by
  unfold gIsi tyD isiO
  dsimp only
  cases S[n]? with
  | none => rfl
  | some o => cases o <;> rfl
@[simp] theorem isiO_lst {T : String} {ds : List D} : isiO T S (some (.lst ds)) = .ok (.bl (isiT "list" T)) S := rfl
@[simp] theorem isiO_dict {T : String} {ds : List (D × D)} : isiO T S (some (.dict ds)) = .ok (.bl (isiT "dict" T)) S := rfl
@[simp] theorem isiT_1 : isiT "int" "int" = true := rfl
@[simp] theorem isiT_2 : isiT "bool" "int" = true := rfl
@[simp] theorem isiT_3 : isiT "str" "int" = false := rfl
@[simp] theorem isiT_4 : isiT "NoneType" "int" = false := rfl
@[simp] theorem isiT_5 : isiT "tuple" "int" = false := rfl
@[simp] theorem isiT_6 : isiT "list" "int" = false := rfl
@[simp] theorem isiT_7 : isiT "dict" "int" = false := rfl
@[simp] theorem isiT_8 : isiT "bool" "bool" = true := rfl
@[simp] theorem isiT_9 : isiT "int" "bool" = false := rfl
@[simp] theorem isiT_10 : isiT "str" "bool" = false := rfl
@[simp] theorem isiT_11 : isiT "NoneType" "bool" = false := rfl
@[simp] theorem isiT_12 : isiT "tuple" "bool" = false := rfl
@[simp] theorem isiT_13 : isiT "list" "bool" = false := rfl
@[simp] theorem isiT_14 : isiT "dict" "bool" = false := rfl
@[simp] theorem isiT_15 : isiT "str" "str" = true := rfl
@[simp] theorem isiT_16 : isiT "int" "str" = false := rfl
@[simp] theorem isiT_17 : isiT "bool" "str" = false := rfl
@[simp] theorem isiT_18 : isiT "NoneType" "str" = false := rfl
@[simp] theorem isiT_19 : isiT "tuple" "str" = false := rfl
@[simp] theorem isiT_20 : isiT "list" "str" = false := rfl
@[simp] theorem isiT_21 : isiT "dict" "str" = false := rfl
@[simp] theorem isiT_22 : isiT "tuple" "tuple" = true := rfl
@[simp] theorem isiT_23 : isiT "int" "tuple" = false := rfl
@[simp] theorem isiT_24 : isiT "bool" "tuple" = false := rfl
@[simp] theorem isiT_25 : isiT "NoneType" "tuple" = false := rfl
@[simp] theorem isiT_26 : isiT "str" "tuple" = false := rfl
@[simp] theorem isiT_27 : isiT "list" "tuple" = false := rfl
@[simp] theorem isiT_28 : isiT "dict" "tuple" = false := rfl
@[simp] theorem isiT_29 : isiT "list" "list" = true := rfl
-- len
@[simp] theorem gLen_tup {ds : List D} : gLen [.tup ds] S = .ok (.int ds.length) S := rfl
@[simp] theorem gLen_scr {ds : List D} : gLen [.scr ds] S = .ok (.int ds.length) S := rfl
def lenO (S : Sto) : Option O → R D
  | some (.lst ds) => .ok (.int ds.length) S
  | some (.dict kvs) => .ok (.int kvs.length) S
  | some (.fd kvs) => .ok (.int kvs.length) S
  | _ => .err
@[simp] theorem gLen_ref {n : Nat} : gLen [.ref n] S = lenO S S[n]? := by unfold gLen lenO; rfl
@[simp] theorem lenO_lst {ds : List D} : lenO S (some (.lst ds)) = .ok (.int ds.length) S := rfl
@[simp] theorem lenO_dict {ds : List (D × D)} : lenO S (some (.dict ds)) = .ok (.int ds.length) S := rfl
@[simp] theorem gAbs_int {i : Int} : gAbs [.int i] S = .ok (.int (if i < 0 then -i else i)) S := rfl
theorem gAdd_str_ok {a b : Str} (h : a.length + b.length ≤ 16777216) : gAdd (.str a) (.str b) S = .ok (.str (a ++ b)) S := by rw [gAdd_str]; exact if_pos h
theorem gAdd_tup_ok {a b : List D} (h : a.length + b.length ≤ 16777216) : gAdd (.tup a) (.tup b) S = .ok (.tup (a ++ b)) S := by rw [gAdd_tup]; exact if_pos h
theorem addO_ok {a b : List D} (h : a.length + b.length ≤ 16777216) : addO S (some (.lst a)) (some (.lst b)) = .ok (.ref S.length) (S ++ [.lst (a ++ b)]) := by rw [addO_lst]; exact if_pos h
-- slices
@[simp] theorem dSl_eq {h : GS} {fl fh : DO} : dSl h fe fl fh env S = (fe env S).bind fun x S1 => (fl env S1).bind fun l S2 => (fh env S2).bind fun u S3 => h x l u S3 := rfl
@[simp] theorem dNoPart_eq : dNoPart env S = .ok none S := rfl
def partR (x : D) (S : Sto) : R (Option Int) := match x with
  | .int i => .ok (some i) S
  | _ => .err
@[simp] theorem partR_int {i : Int} : partR (.int i) S = .ok (some i) S := rfl
@[simp] theorem dPart_eq : dPart fe env S = (fe env S).bind partR := rfl
@[simp] theorem gSl_tup {ds : List D} {lo hi : Option Int} : gSl (.tup ds) lo hi S = .ok (.tup (cutD ds lo hi)) S := rfl
@[simp] theorem gSl_scr {ds : List D} {lo hi : Option Int} : gSl (.scr ds) lo hi S = .ok (.ref S.length) (S ++ [.lst (cutD ds lo hi)]) := rfl
theorem gSl_str {z : Str} {lo hi : Option Int} (h : z.length ≤ 16777216) : gSl (.str z) lo hi S = .ok (.str (cutS z lo hi)) S := by unfold gSl; exact if_pos h
def slO (lo hi : Option Int) (S : Sto) : Option O → R D
  | some (.lst ds) => .ok (.ref S.length) (S ++ [.lst (cutD ds lo hi)])
  | _ => .err
@[simp] theorem gSl_ref {n : Nat} {lo hi : Option Int} : gSl (.ref n) lo hi S = slO lo hi S S[n]? := by unfold gSl slO; rfl
@[simp] theorem slO_lst {ds : List D} {lo hi : Option Int} : slO lo hi S (some (.lst ds)) = .ok (.ref S.length) (S ++ [.lst (cutD ds lo hi)]) := rfl
theorem cutS_len {z : Str} {lo hi : Option Int} : (cutS z lo hi).length ≤ z.length := by
  unfold cutS Str.length
  simp only [List.size_toArray, List.length_take, List.length_drop]
  have : z.cps.toList.length = z.cps.size := by simp
  omega
-- methods
@[simp] theorem dMt_eq {T : String} {h : GM} : dMt T h fe fs env S = (fe env S).bind fun x S1 => if tyOk T x S1 = true then (fs env S1).bind fun xs S2 => h x xs S2 else .err := rfl
@[simp] theorem dMt0_eq {T : String} {h : GM} : dMt0 T h fe env S = (fe env S).bind fun x S1 => if tyOk T x S1 = true then h x [] S1 else .err := rfl
@[simp] theorem tyOk_str {T : String} {z : Str} : tyOk T (.str z) S = (T == "str") := rfl
@[simp] theorem tyOk_scr {T : String} {z : List D} : tyOk T (.scr z) S = (T == "list") := rfl
def tyOkO (T : String) : Option O → Bool
  | some (.lst _) => T == "list"
  | some (.dict _) => T == "dict"
  | some (.fd _) => T == "dict"
  | _ => false
@[simp] theorem tyOk_ref {T : String} {n : Nat} : tyOk T (.ref n) S = tyOkO T S[n]? := by unfold tyOk tyOkO; rfl
@[simp] theorem tyOkO_lst {T : String} {ds : List D} : tyOkO T (some (.lst ds)) = (T == "list") := rfl
@[simp] theorem tyOkO_dict {T : String} {ds : List (D × D)} : tyOkO T (some (.dict ds)) = (T == "dict") := rfl
theorem gUpper_ok {z : Str} (h : z.length ≤ 5592405) : gUpper (.str z) [] S = .ok (.str (Txt.upper z)) S := by unfold gUpper; exact if_pos h
theorem gSplit_ok {a b : Str} (h : (b.length == 0) = false) (h2 : a.length + 2 ≤ 16777216) : gSplit (.str a) [.str b] S = .ok (.ref S.length) (S ++ [.lst ((Txt.split a b).map D.str)]) := by unfold gSplit; exact if_pos ⟨h, h2⟩
theorem gAppend_ok {n : Nat} {ds : List D} {y : D} (h : S[n]? = some (.lst ds)) (h2 : ds.length < 16777216) : gAppend (.ref n) [y] S = .ok .non (S.set n (.lst (ds ++ [y]))) := by
  unfold gAppend lstAt; simp only [h]; exact if_pos h2
theorem gGet2_ok {n : Nat} {kvs : List (D × D)} {k z : D} (h : S[n]? = some (.dict kvs)) (h2 : isKey k = true) : gGet2 (.ref n) [k, z] S = .ok ((findK kvs k).getD z) S := by
  unfold gGet2 dctRd; simp only [h, h2, if_true]
theorem gGet1_ok {n : Nat} {kvs : List (D × D)} {k : D} (h : S[n]? = some (.dict kvs)) (h2 : isKey k = true) : gGet1 (.ref n) [k] S = .ok ((findK kvs k).getD .non) S := by
  unfold gGet1 dctRd; simp only [h, h2, if_true]
-- dicts
@[simp] theorem dDict0_eq : dDict0 env S = .ok (.ref S.length) (S ++ [.dict []]) := rfl
def dictR (kvs : List (D × D)) (S : Sto) : R D := if keysOk kvs = true ∧ kvs.length ≤ 15 then .ok (.ref S.length) (S ++ [.dict (mergeD [] kvs)]) else .err
@[simp] theorem dDict_eq {ps : List (DE × DE)} : dDict ps env S = (pairsE ps env S).bind dictR := rfl
@[simp] theorem pairsE_nil : pairsE [] env S = .ok [] S := rfl
@[simp] theorem pairsE_cons {fk fv : DE} {r : List (DE × DE)} : pairsE ((fk, fv) :: r) env S = (fk env S).bind fun x S1 => (fv env S1).bind fun y S2 => (pairsE r env S2).bind fun ps S3 => .ok ((x, y) :: ps) S3 := rfl
theorem dictR_ok {kvs : List (D × D)} (h : keysOk kvs = true) (h2 : kvs.length ≤ 15) : dictR kvs S = .ok (.ref S.length) (S ++ [.dict (mergeD [] kvs)]) := by unfold dictR; rw [if_pos ⟨h, h2⟩]
@[simp] theorem keysOk_nil : keysOk [] = true := rfl
@[simp] theorem keysOk_cons {k v : D} {r : List (D × D)} : keysOk ((k, v) :: r) = (isKey k && keysOk r) := rfl
@[simp] theorem gInK_str {tb : List (Str × D)} {z : Str} : gInK tb (.str z) S = .ok (.bl (tb.lookup z).isSome) S := rfl
@[simp] theorem gIxK_str {tb : List (Str × D)} {z : Str} : gIxK tb (.str z) S = ixR S (tb.lookup z) := by unfold gIxK ixR; rfl
@[simp] theorem gInt_int {i : Int} : gInt [.int i] S = .ok (.int i) S := rfl
theorem gInt_str {a : Str} {n : Int} (h : PySem.intText? a = some n) (h2 : a.length ≤ 640) : gInt [.str a] S = .ok (.int n) S := by
  unfold gInt; simp only [h, h2, if_true]
-- loops
theorem dFor_eq {fi : DI} {t : DG} : dFor fi t f env S = thenS (fi env S) env fun it S1 => forL it.guard t f it.items env S1 := rfl
theorem forL_nil {gd : List (Nat × O)} {t : DG} (h : Grd gd S) : forL gd t f [] env S = .nx env S := by unfold forL; rw [if_pos h]
def forR (gd : List (Nat × O)) (t : DG) (b : DS) (r : List D) : Fl → Fl
  | .nx e2 S2 => forL gd t b r e2 S2
  | .ct e2 S2 => forL gd t b r e2 S2
  | .bk e2 S2 => .nx e2 S2
  | q => q
@[simp] theorem forR_nx {gd : List (Nat × O)} {t : DG} {r : List D} {e : RL.Env} : forR gd t f r (.nx e S) = forL gd t f r e S := rfl
@[simp] theorem forR_ct {gd : List (Nat × O)} {t : DG} {r : List D} {e : RL.Env} : forR gd t f r (.ct e S) = forL gd t f r e S := rfl
@[simp] theorem forR_bk {gd : List (Nat × O)} {t : DG} {r : List D} {e : RL.Env} : forR gd t f r (.bk e S) = .nx e S := rfl
@[simp] theorem forR_rt {gd : List (Nat × O)} {t : DG} {r : List D} {d : D} : forR gd t f r (.rt d S) = .rt d S := rfl
@[simp] theorem forR_exc {gd : List (Nat × O)} {t : DG} {r : List D} {c : Str} {e : RL.Env} : forR gd t f r (.exc c e S) = .exc c e S := rfl
theorem forL_cons {gd : List (Nat × O)} {t : DG} {d : D} {r : List D} (h : Grd gd S) {e1 : RL.Env} {S1 : Sto} (ht : t d env S = .ok e1 S1) : forL gd t f (d :: r) env S = forR gd t f r (f e1 S1) := by
  rw [forL]
  dsimp only
  rw [if_pos h, ht]
  all_goals (show (match f e1 S1 with
    | .nx e2 S2 => forL gd t f r e2 S2
    | .ct e2 S2 => forL gd t f r e2 S2
    | .bk e2 S2 => .nx e2 S2
    | q => q) = _)
  all_goals unfold forR
  all_goals (generalize f e1 S1 = q)
  all_goals (cases q <;> rfl)
def forT (gd : List (Nat × O)) (t : DG) (b : DS) (r : List D) : R RL.Env → Fl
  | .ok e1 S1 => forR gd t b r (b e1 S1)
  | _ => .err
@[simp] theorem forT_ok {gd : List (Nat × O)} {t : DG} {r : List D} {e : RL.Env} : forT gd t f r (.ok e S) = forR gd t f r (f e S) := rfl
@[simp] theorem grd_none : Grd [] S := fun _ h => nomatch h
@[simp] theorem forL_nil0 {t : DG} : forL [] t f [] env S = .nx env S := forL_nil grd_none
@[simp] theorem forL_cons0 {t : DG} {d : D} {r : List D} : forL [] t f (d :: r) env S = forT [] t f r (t d env S) := by
  rw [forL]
  dsimp only
  rw [if_pos grd_none]
  unfold forT forR
  generalize t d env S = q
  cases q with
  | ok e1 S1 =>
    dsimp only
    all_goals (generalize f e1 S1 = p)
    all_goals (cases p <;> rfl)
  | exc => rfl
  | err => rfl
def rg1 (xs : List D) (S : Sto) : R ItD := match xs with
  | [.int j] => if -(2 ^ 62) ≤ j ∧ j < 2 ^ 62 then .ok ⟨rangeD 0 j.toNat, []⟩ S else .err
  | _ => .err
@[simp] theorem dRange1_eq : dRange1 fs env S = (fs env S).bind rg1 := rfl
theorem rg1_ok {j : Int} (h : 0 ≤ j) (h2 : j < 2 ^ 62) : rg1 [.int j] S = .ok ⟨rangeD 0 j.toNat, []⟩ S := by unfold rg1; exact if_pos ⟨by omega, h2⟩
def rg2 (xs : List D) (S : Sto) : R ItD := match xs with
  | [.int i, .int j] => if -(2 ^ 62) ≤ i ∧ i < 2 ^ 62 ∧ -(2 ^ 62) ≤ j ∧ j < 2 ^ 62 then .ok ⟨rangeD i (j - i).toNat, []⟩ S else .err
  | _ => .err
@[simp] theorem dRange2_eq : dRange2 fs env S = (fs env S).bind rg2 := rfl
theorem rg2_ok {i j : Int} (h0 : -(2 ^ 62) ≤ i ∧ i < 2 ^ 62) (h : -(2 ^ 62) ≤ j ∧ j < 2 ^ 62) : rg2 [.int i, .int j] S = .ok ⟨rangeD i (j - i).toNat, []⟩ S := by unfold rg2; exact if_pos ⟨h0.1, h0.2, h⟩
def rg3 (xs : List D) (S : Sto) : R ItD := match xs with
  | [.int i, .int j, .int c] => if c ≠ 0 ∧ c.natAbs < 1073741824 ∧ Builtin.Range.small i j c = true ∧ 0 ≤ Builtin.Range.rangeSize i j c then .ok ⟨rangeC i c (Builtin.Range.rangeSize i j c).toNat, []⟩ S else .err
  | _ => .err
@[simp] theorem dRange3_eq : dRange3 fs env S = (fs env S).bind rg3 := rfl
theorem grd_some {n : Nat} {o : O} (h : S[n]? = some o) : Grd [(n, o)] S := fun p hp => by obtain rfl := List.mem_singleton.mp hp; exact h
/-- a for loop whose turns all go on: an invariant -/
theorem forL_inv {gd : List (Nat × O)} {t : DG} {items : List D} (P : Nat → RL.Env → Sto → Prop) (hg : ∀ i e S, P i e S → Grd gd S)
    (turn : ∀ i d e S, items[i]? = some d → P i e S → ∃ e1 S1 e2 S2, t d e S = .ok e1 S1 ∧ (f e1 S1 = .nx e2 S2 ∨ f e1 S1 = .ct e2 S2) ∧ P (i + 1) e2 S2) (h0 : P 0 env S) :
    ∃ e S', forL gd t f items env S = .nx e S' ∧ P items.length e S' := by
  have go : ∀ (k i : Nat) (env : RL.Env) (S : Sto), i + k = items.length → P i env S → ∃ e S', forL gd t f (items.drop i) env S = .nx e S' ∧ P items.length e S' := by
    intro k
    induction k with
    | zero =>
      intro i env S hk hp
      rw [List.drop_eq_nil_of_le (by omega), forL_nil (hg i env S hp)]
      exact ⟨env, S, rfl, by rw [show items.length = i by omega]; exact hp⟩
    | succ k ih =>
      intro i env S hk hp
      have hi : i < items.length := by omega
      obtain ⟨e1, S1, e2, S2, h1, h2, h3⟩ := turn i items[i] env S (List.getElem?_eq_getElem hi) hp
      rw [List.drop_eq_getElem_cons hi, forL_cons (hg i env S hp) h1]
      obtain ⟨e, S', h4, h5⟩ := ih (i + 1) e2 S2 (by omega) h3
      refine ⟨e, S', ?_, h5⟩
      rcases h2 with h2 | h2 <;> rw [h2] <;> simpa using h4
  simpa using go items.length 0 env S (by omega) h0
@[simp] theorem dItA_eq : dItA fe env S = (fe env S).bind itAny := rfl
@[simp] theorem itAny_tup {ds : List D} : itAny (.tup ds) S = .ok ⟨ds, []⟩ S := rfl
@[simp] theorem itAny_str {z : Str} : itAny (.str z) S = .ok ⟨strs1 z, []⟩ S := rfl
@[simp] theorem itAny_scr {ds : List D} : itAny (.scr ds) S = .ok ⟨ds, []⟩ S := rfl
def itO (n : Nat) (S : Sto) : Option O → R ItD
  | some (.lst ds) => .ok ⟨ds, [(n, .lst ds)]⟩ S
  | _ => .err
@[simp] theorem itAny_ref {n : Nat} : itAny (.ref n) S = itO n S S[n]? := by unfold itAny itOf itO; rfl
@[simp] theorem itO_lst {n : Nat} {ds : List D} : itO n S (some (.lst ds)) = .ok ⟨ds, [(n, .lst ds)]⟩ S := rfl
end
end RL

namespace RL
open PySem PySem.Spec PyProof.Rows L2
/-! ### more rules to reckon with mirrors -/
section
variable {env : RL.Env} {S : Sto} {f g : DS} {fe fa fb fc : DE} {fs : DA}
@[simp] theorem gMax2_int {i j : Int} : gMax2 [.int i, .int j] S = .ok (.int (if j > i then j else i)) S := rfl
@[simp] theorem gMin2_int {i j : Int} : gMin2 [.int i, .int j] S = .ok (.int (if j < i then j else i)) S := rfl
@[simp] theorem gInt_bl {b : Bool} : gInt [.bl b] S = .ok (.int (if b then 1 else 0)) S := rfl
@[simp] theorem gTuple_tup {ds : List D} : gTuple [.tup ds] S = .ok (.tup ds) S := rfl
theorem gTuple_lst {n : Nat} {ds : List D} (h : S[n]? = some (.lst ds)) : gTuple [.ref n] S = .ok (.tup ds) S := by unfold gTuple itemsS; simp only [itemsL, h]
theorem gList_lst {n : Nat} {ds : List D} (h : S[n]? = some (.lst ds)) : gList [.ref n] S = .ok (.ref S.length) (S ++ [.lst ds]) := by unfold gList itemsS; simp only [itemsL, h]
@[simp] theorem gList_tup {ds : List D} : gList [.tup ds] S = .ok (.ref S.length) (S ++ [.lst ds]) := rfl
@[simp] theorem dZip_eq : dZip fs env S = (fs env S).bind zipOf := rfl
@[simp] theorem zipOf_tup {a b : List D} : zipOf [.tup a, .tup b] S = .ok ⟨zipD a b, []⟩ S := rfl
def tryAsR (sb : List (Str × Bool)) (i : Nat) (s : Str → DS) : Fl → Fl
  | .exc c e S1 => match sb.lookup c with
    | some true => if i < e.length then endAs i (s c (e.set i none) S1) else .err
    | some false => .exc c e S1
    | none => .err
  | r => r
theorem dTryAs_eq {sb : List (Str × Bool)} {i : Nat} {b : DS} {s : Str → DS} : dTryAs sb i b s env S = tryAsR sb i s (b env S) := by
  unfold dTryAs tryAsR; rfl
section
variable {sb : List (Str × Bool)} {i : Nat} {s : Str → DS} {e : RL.Env} {d : D} {c : Str}
@[simp] theorem tryAsR_nx : tryAsR sb i s (.nx e S) = .nx e S := rfl
@[simp] theorem tryAsR_rt : tryAsR sb i s (.rt d S) = .rt d S := rfl
theorem tryAsR_exc (h : sb.lookup c = some true) (hi : i < e.length) : tryAsR sb i s (.exc c e S) = endAs i (s c (e.set i none) S) := by
  unfold tryAsR; simp only [h, hi, if_true]
@[simp] theorem endAs_nx : endAs i (.nx e S) = .nx (e.set i none) S := rfl
@[simp] theorem endAs_rt : endAs i (.rt d S) = .rt d S := rfl
end
def tryOnR (sb : List (Str × Bool)) (s : Str → DS) : Fl → Fl
  | .exc c e S1 => match sb.lookup c with
    | some true => endOn (s c e S1)
    | some false => .exc c e S1
    | none => .err
  | r => r
theorem dTryOn_eq {sb : List (Str × Bool)} {b : DS} {s : Str → DS} : dTryOn sb b s env S = tryOnR sb s (b env S) := by
  unfold dTryOn tryOnR; rfl
section
variable {sb : List (Str × Bool)} {s : Str → DS} {e : RL.Env} {d : D} {c : Str}
@[simp] theorem tryOnR_nx : tryOnR sb s (.nx e S) = .nx e S := rfl
@[simp] theorem tryOnR_rt : tryOnR sb s (.rt d S) = .rt d S := rfl
theorem tryOnR_exc (h : sb.lookup c = some true) : tryOnR sb s (.exc c e S) = endOn (s c e S) := by
  unfold tryOnR; simp only [h]
@[simp] theorem endOn_nx : endOn (.nx e S) = .nx e S := rfl
@[simp] theorem endOn_rt : endOn (.rt d S) = .rt d S := rfl
end
theorem dIsE_ok {tab : List (Str × Bool)} {c : Str} {b : Bool} (h : tab.lookup c = some b) : dIsE tab c env S = .ok (.bl b) S := by unfold dIsE; simp only [h]
theorem dIsET_ok {tabs : List (List (Str × Bool))} {c : Str} {b : Bool} (h : orT tabs c = some b) : dIsET tabs c env S = .ok (.bl b) S := by unfold dIsET; simp only [h]
end
/-! == of plain data -/
def plN : Nat → D → Bool
  | 0, _ => false
  | _ + 1, .non => true
  | _ + 1, .int _ => true
  | _ + 1, .str x => PyData.strOk x
  | k + 1, .tup ds => ds.all (plN k)
  | _ + 1, _ => false
theorem mapM_all {α β : Type} {f : α → Option β} : ∀ {l : List α}, (∀ a ∈ l, ∃ b, f a = some b) → ∃ r, l.mapM f = some r
  | [], _ => ⟨[], rfl⟩
  | a :: l, h => by
    obtain ⟨b, e⟩ := h a List.mem_cons_self
    obtain ⟨r, e2⟩ := mapM_all fun x hx => h x (List.mem_cons_of_mem _ hx)
    exact ⟨b :: r, by rw [List.mapM_cons, e, e2]; rfl⟩
theorem plN_toP {S : Sto} : ∀ {k : Nat} {d : D}, plN k d = true → ∃ p, toP S k d = some p
  | 0, _, h => by cases h
  | k + 1, .non, _ => ⟨_, rfl⟩
  | k + 1, .int _, _ => ⟨_, rfl⟩
  | k + 1, .str x, h => ⟨.str x, by unfold toP; exact if_pos h⟩
  | k + 1, .tup ds, h => by
    obtain ⟨r, e⟩ := mapM_all (f := toP S k) (l := ds) fun a ha => plN_toP (List.all_eq_true.mp h a ha)
    exact ⟨.tuple r, by unfold toP; dsimp only; rw [e]; rfl⟩
  | k + 1, .bl _, h => by cases h
  | k + 1, .scr _, h => by cases h
  | k + 1, .ref _, h => by cases h
theorem eqvAll_plain {S : Sto} {k j : Nat} (ih : ∀ {x y : D} {p q : PyData}, plN k x = true → plN j y = true → toP S k x = some p → toP S j y = some q → PyData.eqv p q = decide (x = y)) :
    ∀ {xs ys : List D} {ps qs : List PyData}, xs.all (plN k) = true → ys.all (plN j) = true → Paired (fun a b => toP S k a = some b) xs ps → Paired (fun a b => toP S j a = some b) ys qs → PyData.eqvAll ps qs = decide (xs = ys)
  | [], [], _, _, _, _, .nil, .nil => rfl
  | [], _ :: _, _, _, _, _, .nil, .cons _ _ => rfl
  | _ :: _, [], _, _, _, _, .cons _ _, .nil => rfl
  | x :: xs, y :: ys, _, _, h1, h2, .cons a b, .cons c d => by
    rw [List.all_cons, Bool.and_eq_true] at h1 h2
    rw [PyData.eqvAll, ih h1.1 h2.1 a c, eqvAll_plain ih h1.2 h2.2 b d]
    rw [Bool.eq_iff_iff]
    simp
theorem eqv_plain {S : Sto} : ∀ {k j : Nat} {x y : D} {p q : PyData}, plN k x = true → plN j y = true → toP S k x = some p → toP S j y = some q → PyData.eqv p q = decide (x = y)
  | 0, _, _, _, _, _, h, _, _, _ => by cases h
  | _ + 1, 0, _, _, _, _, _, h, _, _ => by cases h
  | k + 1, j + 1, x, y, p, q, h1, h2, e1, e2 => by
    have sx : ∀ {z : Str} {r : PyData} {k : Nat}, plN (k + 1) (.str z) = true → toP S (k + 1) (.str z) = some r → r = .str z := fun h e => by
      unfold toP at e
      dsimp only at e
      rw [if_pos (show PyData.strOk _ = true from h)] at e
      cases e; rfl
    have tx : ∀ {ds : List D} {r : PyData} {k : Nat}, toP S (k + 1) (.tup ds) = some r → ∃ ps, ds.mapM (toP S k) = some ps ∧ r = .tuple ps := fun e => by
      unfold toP at e
      obtain ⟨ps, e1, e2⟩ := Option.map_eq_some_iff.mp e
      exact ⟨ps, e1, e2.symm⟩
    cases x with
    | bl _ => cases h1
    | scr _ => cases h1
    | ref _ => cases h1
    | non =>
      cases e1
      cases y with
      | bl _ => cases h2
      | scr _ => cases h2
      | ref _ => cases h2
      | non => cases e2; rfl
      | int _ => cases e2; rfl
      | str _ => rw [sx h2 e2]; rfl
      | tup _ => obtain ⟨_, _, rfl⟩ := tx e2; rfl
    | int i =>
      cases e1
      cases y with
      | bl _ => cases h2
      | scr _ => cases h2
      | ref _ => cases h2
      | non => cases e2; rfl
      | int j => cases e2; show (i == j) = _; rw [Bool.eq_iff_iff]; simp
      | str _ => rw [sx h2 e2]; rfl
      | tup _ => obtain ⟨_, _, rfl⟩ := tx e2; rfl
    | str a =>
      rw [sx h1 e1]
      cases y with
      | bl _ => cases h2
      | scr _ => cases h2
      | ref _ => cases h2
      | non => cases e2; rfl
      | int j => cases e2; rfl
      | str b => rw [sx h2 e2]; show (a == b) = _; rw [Bool.eq_iff_iff]; simp
      | tup _ => obtain ⟨_, _, rfl⟩ := tx e2; rfl
    | tup a =>
      obtain ⟨ps, q1, rfl⟩ := tx e1
      cases y with
      | bl _ => cases h2
      | scr _ => cases h2
      | ref _ => cases h2
      | non => cases e2; rfl
      | int j => cases e2; rfl
      | str b => rw [sx h2 e2]; rfl
      | tup b =>
        obtain ⟨qs, q2, rfl⟩ := tx e2
        rw [PyData.eqv, eqvAll_plain (fun h1 h2 => eqv_plain h1 h2) h1 h2 (mapM_some q1) (mapM_some q2)]
        rw [Bool.eq_iff_iff]
        simp
theorem eqD_plain {S : Sto} {x y : D} (hx : plN 24 x = true) (hy : plN 24 y = true) : eqD x y S = some (decide (x = y)) := by
  obtain ⟨p, e1⟩ := plN_toP (S := S) hx
  obtain ⟨q, e2⟩ := plN_toP (S := S) hy
  have h := eqv_plain hx hy e1 e2
  cases x <;> cases y <;> first | (cases hx; done) | (cases hy; done) | rfl | (unfold eqD; simp only [e1, e2, h]; done) | (unfold eqD; simp; done)
theorem gEq_plain {S : Sto} {x y : D} (hx : plN 24 x = true) (hy : plN 24 y = true) : gEq x y S = .ok (.bl (decide (x = y))) S := by unfold gEq; rw [eqD_plain hx hy]
theorem gNe_plain {S : Sto} {x y : D} (hx : plN 24 x = true) (hy : plN 24 y = true) : gNe x y S = .ok (.bl (!decide (x = y))) S := by unfold gNe; rw [eqD_plain hx hy]
end RL
namespace RL
open PySem PySem.Spec PyProof.Rows L2
theorem dLc_eq {c : Nat ⊕ List Nat} {vs : List Nat} {fi : DI} {t : DT} {f : DE} {env : RL.Env} {S : Sto} : dLc c vs fi t f env S = (fi env S).bind fun it S1 => if it.items.length ≤ lim then
  (lcL it.guard (cTarget c) t f (wipeE env vs) it.items S1).bind fun ds S2 => .ok (.ref S2.length) (S2 ++ [.lst ds]) else .err := rfl
/-- a comprehension that lays nothing -/
theorem lcL_pure {gd : List (Nat × O)} {c : CT} {t : DT} {f : DE} {env : RL.Env} {S : Sto} {p : D → Bool} {g : D → D} (hg : Grd gd S) : ∀ {items : List D},
    (∀ d ∈ items, ∃ e1, c d env = some e1 ∧ t e1 S = .ok (p d) S ∧ (p d = true → f e1 S = .ok (g d) S)) → lcL gd c t f env items S = .ok ((items.filter p).map g) S
  | [], _ => by unfold lcL; rw [if_pos hg]; rfl
  | d :: r, h => by
    obtain ⟨e1, h1, h2, h3⟩ := h d List.mem_cons_self
    have ih := lcL_pure (t := t) (f := f) (p := p) (g := g) hg (items := r) fun x hx => h x (List.mem_cons_of_mem _ hx)
    unfold lcL
    rw [if_pos hg]
    simp only [h1, h2, noEx_ok, R.bind_ok]
    by_cases hp : p d = true
    · rw [if_pos hp, h3 hp]
      simp only [noEx_ok, R.bind_ok, ih, List.filter_cons, hp, if_true, List.map_cons]
    · rw [if_neg hp]
      simp only [ih, List.filter_cons, hp]
      simp
theorem sortP_one {S : Sto} {i : Int} : sortP S [.int i] = some [.int i] := by
  unfold sortP
  have e : [D.int i].mapM (toP S 24) = some [.int i] := rfl
  rw [e]
  dsimp only
  rw [if_pos ⟨by simp [PySem.W.alike], by rfl, by simp [lim]⟩]
  unfold sortZ
  simp
theorem srcL_tup {ds : List D} {S : Sto} : srcL (.tup ds) S = some ds := rfl
theorem gSorted_ok {x : D} {S : Sto} {ds es : List D} (h1 : srcL x S = some ds) (h2 : sortP S ds = some es) : gSorted [x] S = .ok (.ref S.length) (S ++ [.lst es]) := by
  unfold gSorted; simp only [h1, Option.bind_some, h2]
end RL
namespace RL
open PySem PySem.Spec PyProof.Rows L2
/-! whole numbers: in, sorted, dicts by them -/
def srt (ns : List Int) : List Int := ns.mergeSort (fun a b => decide (a ≤ b))
theorem srt_perm (ns : List Int) : (srt ns).Perm ns := List.mergeSort_perm ..
theorem srt_pw (ns : List Int) : (srt ns).Pairwise (· ≤ ·) := by
  have h := List.pairwise_mergeSort (le := fun a b : Int => decide (a ≤ b)) (fun a b c h1 h2 => by simp at *; omega) (fun a b => by simp; omega) ns
  exact h.imp fun h => by simpa using h
theorem srt_of {ns ms : List Int} (hp : ns.Perm ms) (hs : ns.Pairwise (· ≤ ·)) : srt ms = ns :=
  ((srt_perm ms).trans hp.symm).eq_of_pairwise (le := (· ≤ ·)) (fun a b _ _ h1 h2 => by omega) (srt_pw ms) hs
theorem srt_mem {ns : List Int} {i : Int} : i ∈ srt ns ↔ i ∈ ns := (srt_perm ns).mem_iff
theorem srt_len (ns : List Int) : (srt ns).length = ns.length := (srt_perm ns).length_eq
theorem srt_congr {ns ms : List Int} (h : ns.Perm ms) : srt ns = srt ms := srt_of ((srt_perm ms).trans h.symm) (srt_pw ms)
theorem srt_app {ns : List Int} {w : Int} : srt (srt ns ++ [w]) = srt (ns ++ [w]) := srt_congr ((srt_perm ns).append_right _)
theorem srt_filter {ns : List Int} {p : Int → Bool} : srt (ns.filter p) = (srt ns).filter p := srt_of ((srt_perm ns).filter p) ((srt_pw ns).filter p)
theorem mapM_ints {S : Sto} {k : Nat} : ∀ {ns : List Int}, (ns.map D.int).mapM (toP S (k + 1)) = some (ns.map PyData.int)
  | [] => rfl
  | n :: ns => by rw [List.map_cons, List.mapM_cons, mapM_ints (ns := ns)]; rfl
theorem sortP_ints {S : Sto} {ns : List Int} (h : ns.length ≤ 16777216) : sortP S (ns.map D.int) = some ((srt ns).map D.int) := by
  unfold sortP
  rw [mapM_ints]
  dsimp only
  rw [if_pos ⟨by simp [PySem.W.alike], by unfold sortableB; rw [Bool.or_eq_true]; exact .inr (by simp [notTN]), by rw [List.length_map]; exact h⟩]
  congr 1
  unfold sortZ srt
  have e : (ns.map D.int).zip (ns.map PyData.int) = ns.map fun n => (D.int n, PyData.int n) := by
    rw [List.zip_map']
  rw [e, ← List.map_mergeSort (r := fun a b : Int => decide (a ≤ b)), List.map_map]
  · rfl
  · intro a _ b _
    have q := congrFun (congrFun (PySem.W.dataLe_int (fun n : Int => n)) a) b
    exact q.symm
theorem any_int {ms : List Int} {w : Int} : ((ms.map D.int).any fun e => eqF e (.int w)) = decide (w ∈ ms) := by
  rw [Bool.eq_iff_iff]
  simp only [List.any_map, List.any_eq_true, Function.comp, eqF_ii, beq_iff_eq, decide_eq_true_eq]
  constructor
  · rintro ⟨x, h, rfl⟩; exact h
  · intro h; exact ⟨w, h, rfl⟩
theorem flat_ints {ms : List Int} {w : Int} : (flatD (.int w) && (ms.map D.int).all flatD) = true := by simp
theorem gIn_ints {ms : List Int} {w : Int} {S : Sto} : gIn (.int w) (.tup (ms.map D.int)) S = .ok (.bl (decide (w ∈ ms))) S := by rw [gIn_tup flat_ints, any_int]
theorem gNotIn_ints {ms : List Int} {w : Int} {S : Sto} : gNotIn (.int w) (.tup (ms.map D.int)) S = .ok (.bl (!decide (w ∈ ms))) S := by rw [gNotIn_tup flat_ints, any_int]
/-- a dict by whole numbers, all True -/
def dk (ks : List Int) : List (D × D) := ks.map fun k => (.int k, .bl true)
theorem dk_len {ks : List Int} : (dk ks).length = ks.length := by unfold dk; simp
theorem dk_keys {ks : List Int} : (dk ks).map (·.1) = ks.map D.int := by unfold dk; simp
theorem dk_find {ks : List Int} {w : Int} : (findK (dk ks) (.int w)).isSome = decide (w ∈ ks) := by
  unfold findK dk
  rw [Option.isSome_map, Bool.eq_iff_iff]
  simp
theorem dk_get {ks : List Int} {w : Int} (h : w ∈ ks) : findK (dk ks) (.int w) = some (.bl true) := by
  have e : (findK (dk ks) (.int w)).isSome = true := by rw [dk_find]; simpa using h
  obtain ⟨d, hd⟩ := Option.isSome_iff_exists.mp e
  rw [hd]
  unfold findK dk at hd
  obtain ⟨p, hp, rfl⟩ := Option.map_eq_some_iff.mp hd
  obtain ⟨k, _, rfl⟩ := List.mem_map.mp (List.mem_of_find?_eq_some hp)
  rfl
theorem dk_put {ks : List Int} {w : Int} (h : w ∈ ks) : putD (dk ks) (.int w) (.bl true) = dk ks := by
  unfold putD
  rw [if_pos (by unfold dk; simp only [List.any_map, List.any_eq_true, Function.comp, decide_eq_true_eq]; exact ⟨w, h, rfl⟩)]
  unfold dk
  rw [List.map_map]
  apply List.map_congr_left
  intro k _
  simp only [Function.comp]
  split <;> rfl
theorem dk_new {ks : List Int} {w : Int} (h : w ∉ ks) : putD (dk ks) (.int w) (.bl true) = dk (ks ++ [w]) := by
  unfold putD
  rw [if_neg (by unfold dk; simp only [List.any_map, List.any_eq_true, Function.comp, decide_eq_true_eq]; rintro ⟨k, hk, e⟩; cases e; exact h hk)]
  unfold dk
  simp
theorem dk_drop {ks : List Int} {w : Int} : dropD (dk ks) (.int w) = dk (ks.filter fun k => !decide (k = w)) := by
  unfold dropD dk
  rw [List.filter_map]
  congr 1
  apply List.filter_congr
  intro k _
  simp [Function.comp]
theorem gIn_dk {ks : List Int} {w : Int} {n : Nat} {S : Sto} (h : S[n]? = some (.dict (dk ks))) : gIn (.int w) (.ref n) S = .ok (.bl (decide (w ∈ ks))) S := by
  unfold gIn inD; simp only [h]; simp [dk_find]
theorem gSorted_dk {ks : List Int} {n : Nat} {S : Sto} (h : S[n]? = some (.dict (dk ks))) (hl : ks.length ≤ 16777216) : gSorted [.ref n] S = .ok (.ref S.length) (S ++ [.lst ((srt ks).map D.int)]) := by
  refine gSorted_ok (ds := ks.map D.int) ?_ (sortP_ints hl)
  unfold srcL; simp only [h, dk_keys]
theorem gDPop_ok {kvs : List (D × D)} {k d : D} {n : Nat} {S : Sto} (h : S[n]? = some (.dict kvs)) (hk : isKey k = true) (hf : findK kvs k = some d) : gDPop (.ref n) [k] S = .ok d (S.set n (.dict (dropD kvs k))) := by
  unfold gDPop dctAt; simp only [h, hk, hf, if_true]
def popR (fo : DE) (fs : DA) (env : RL.Env) (S : Sto) (n : Nat) (S1 : Sto) : Option O → R D
  | some (.lst _) => dMt "list" gPopAt fo fs env S
  | some (.dict _) => dMt "dict" gDPop fo fs env S
  | _ => .err
def pop1R (fo : DE) (fs : DA) (env : RL.Env) (S : Sto) : R D → R D
  | .ok (.ref n) S1 => popR fo fs env S n S1 S1[n]?
  | .exc c S1 => .exc c S1
  | _ => .err
@[simp] theorem pop1R_ref {fo : DE} {fs : DA} {env : RL.Env} {S S1 : Sto} {n : Nat} : pop1R fo fs env S (.ok (.ref n) S1) = popR fo fs env S n S1 S1[n]? := rfl
@[simp] theorem dPop1_eq {fo : DE} {fs : DA} {env : RL.Env} {S : Sto} : dPop1 fo fs env S = pop1R fo fs env S (fo env S) := by
  unfold dPop1 pop1R popR
  generalize fo env S = r
  cases r with
  | ok d S1 =>
    cases d <;> first | rfl | (rename_i n; rcases h : S1[n]? with _ | o <;> first | (simp only [h]; done) | (cases o <;> simp only [h]))
  | exc c S1 => rfl
  | err => rfl
@[simp] theorem popR_lst {fo : DE} {fs : DA} {env : RL.Env} {S S1 : Sto} {n : Nat} {ds : List D} : popR fo fs env S n S1 (some (.lst ds)) = dMt "list" gPopAt fo fs env S := rfl
@[simp] theorem popR_dict {fo : DE} {fs : DA} {env : RL.Env} {S S1 : Sto} {n : Nat} {ds : List (D × D)} : popR fo fs env S n S1 (some (.dict ds)) = dMt "dict" gDPop fo fs env S := rfl
/-- == of lists of whole numbers -/
theorem toP_lst {S : Sto} {n k : Nat} {ns : List Int} (h : S[n]? = some (.lst (ns.map D.int))) : toP S (k + 2) (.ref n) = some (.list (ns.map PyData.int)) := by
  unfold toP; simp only [h, mapM_ints]; rfl
theorem eqvAll_nil {ns : List Int} : PyData.eqvAll (ns.map PyData.int) [] = decide (ns = []) := by cases ns <;> rfl
theorem gEq_nil {S : Sto} {n m : Nat} {ns : List Int} (h : S[n]? = some (.lst (ns.map D.int))) (h2 : S[m]? = some (.lst [])) : gEq (.ref n) (.ref m) S = .ok (.bl (decide (ns = []))) S := by
  have e1 := toP_lst (k := 22) h
  have e2 := toP_lst (k := 22) (ns := []) h2
  unfold gEq eqD
  simp only [e1, e2, PyData.eqv, List.map_nil, eqvAll_nil]
end RL
namespace RL
open PySem PySem.Spec PyProof.Rows L2
theorem forL_consG {t : DG} {f : DS} {d : D} {r : List D} {n : Nat} {o : O} {env : RL.Env} {S : Sto} (h : S[n]? = some o) : forL [(n, o)] t f (d :: r) env S = forT [(n, o)] t f r (t d env S) := by
  cases q : t d env S with
  | ok e1 S1 => rw [forL_cons (grd_some h) q]; rfl
  | exc c S1 => rw [forL]; dsimp only; rw [if_pos (grd_some h), q]; all_goals rfl
  | err => rw [forL]; dsimp only; rw [if_pos (grd_some h), q]; all_goals rfl
theorem forL_nilG {t : DG} {f : DS} {n : Nat} {o : O} {env : RL.Env} {S : Sto} (h : S[n]? = some o) : forL [(n, o)] t f [] env S = .nx env S := forL_nil (grd_some h)
theorem lcL_map {α : Type} {h : α → D} {gd : List (Nat × O)} {c : CT} {t : DT} {f : DE} {env : RL.Env} {S : Sto} {p : α → Bool} {g : α → D} (hg : Grd gd S) : ∀ {items : List α},
    (∀ d ∈ items, ∃ e1, c (h d) env = some e1 ∧ t e1 S = .ok (p d) S ∧ (p d = true → f e1 S = .ok (g d) S)) → lcL gd c t f env (items.map h) S = .ok ((items.filter p).map g) S
  | [], _ => by rw [List.map_nil]; unfold lcL; rw [if_pos hg]; rfl
  | d :: r, hh => by
    obtain ⟨e1, h1, h2, h3⟩ := hh d List.mem_cons_self
    have ih := lcL_map (h := h) (t := t) (f := f) (p := p) (g := g) hg (items := r) fun x hx => hh x (List.mem_cons_of_mem _ hx)
    rw [List.map_cons]
    unfold lcL
    rw [if_pos hg]
    simp only [h1, h2, noEx_ok, R.bind_ok]
    by_cases hp : p d = true
    · rw [if_pos hp, h3 hp]
      simp only [noEx_ok, R.bind_ok, ih, List.filter_cons, hp, if_true, List.map_cons]
    · rw [if_neg hp]
      simp only [ih, List.filter_cons, hp]
      simp
theorem intsOf_map : ∀ {ns : List Int}, intsOf (ns.map D.int) = some ns
  | [] => rfl
  | n :: ns => by rw [List.map_cons, intsOf, intsOf_map]; rfl
theorem gSum_ints {S : Sto} {n : Nat} {ns : List Int} (h : S[n]? = some (.lst (ns.map D.int))) : gSum [.ref n] S = .ok (.int ns.sum) S := by
  unfold gSum itemsL; simp only [h, Option.bind_some, intsOf_map]
theorem app_at {S : Sto} {l : List O} {n : Nat} {o : O} (h : S[n]? = some o) : (S ++ l)[n]? = some o := by rw [List.getElem?_append_left (List.getElem?_eq_some_iff.mp h).1]; exact h
end RL

namespace RL
open PySem PySem.Spec PyProof.Rows L2
/-! ### stores that only grow; dicts; loops seen from their ends -/
def Gr (S S' : Sto) : Prop := S.length ≤ S'.length ∧ ∀ k, k < S.length → S'[k]? = S[k]?
theorem Gr.refl (S : Sto) : Gr S S := ⟨Nat.le_refl _, fun _ _ => rfl⟩
theorem Gr.trans {S S1 S2 : Sto} (a : Gr S S1) (b : Gr S1 S2) : Gr S S2 := ⟨Nat.le_trans a.1 b.1, fun k h => (b.2 k (Nat.lt_of_lt_of_le h a.1)).trans (a.2 k h)⟩
theorem Gr.app (S : Sto) (l : List O) : Gr S (S ++ l) := ⟨by simp, fun k h => by rw [List.getElem?_append_left h]⟩
theorem Gr.at {S S' : Sto} {k : Nat} {o : O} (a : Gr S S') (h : S[k]? = some o) : S'[k]? = some o := (a.2 k (List.getElem?_eq_some_iff.mp h).1).trans h
theorem Gr.set {S S' : Sto} {n : Nat} {o : O} (a : Gr S S') (h : S.length ≤ n) : Gr S (S'.set n o) := ⟨by simp [a.1], fun k hk => by rw [List.getElem?_set_ne (by omega)]; exact a.2 k hk⟩
theorem lt_at {S : Sto} {n : Nat} {o : O} (h : S[n]? = some o) : n < S.length := (List.getElem?_eq_some_iff.mp h).1
theorem at_end {S : Sto} {o : O} : (S ++ [o])[S.length]? = some o := by simp
theorem at_set_ne {S : Sto} {n m : Nat} {o : O} (h : m ≠ n) : (S.set n o)[m]? = S[m]? := List.getElem?_set_ne (Ne.symm h)
/-! dicts -/
theorem findK_nil {k : D} : findK [] k = none := rfl
theorem findK_cons {p : D × D} {r : List (D × D)} {k : D} : findK (p :: r) k = if p.1 = k then some p.2 else findK r k := by
  unfold findK
  rw [List.find?_cons]
  by_cases h : p.1 = k <;> simp [h]
theorem findK_append {l r : List (D × D)} {k : D} (h : ∀ p ∈ l, p.1 ≠ k) : findK (l ++ r) k = findK r k := by
  induction l with
  | nil => rfl
  | cons p l ih => rw [List.cons_append, findK_cons, if_neg (h p List.mem_cons_self), ih fun q hq => h q (List.mem_cons_of_mem _ hq)]
theorem findK_none {l : List (D × D)} {k : D} : findK l k = none ↔ ∀ p ∈ l, p.1 ≠ k := by
  induction l with
  | nil => simp [findK_nil]
  | cons p l ih =>
    rw [findK_cons]
    by_cases h : p.1 = k
    · rw [if_pos h]; simp [h]
    · rw [if_neg h, ih]; simp [h]
theorem putD_new {l : List (D × D)} {k v : D} (h : ∀ p ∈ l, p.1 ≠ k) : putD l k v = l ++ [(k, v)] := by
  unfold putD
  rw [if_neg (by simp only [List.any_eq_true, decide_eq_true_eq, not_exists, not_and]; exact h)]
theorem findK_map {l : List (D × D)} {k k' v : D} : findK (l.map fun p => if p.1 = k then (p.1, v) else p) k' = if k' = k then (findK l k').map fun _ => v else findK l k' := by
  induction l with
  | nil => simp [findK_nil]
  | cons p l ih =>
    rw [List.map_cons, findK_cons, findK_cons, ih]
    by_cases h : p.1 = k
    · rw [if_pos h]
      by_cases h2 : k' = k
      · rw [h2, if_pos h, if_pos rfl, if_pos h]; rfl
      · rw [if_neg (show ¬ (p.1, v).1 = k' from fun e => h2 (e.symm.trans h)), if_neg h2, if_neg h2, if_neg (fun e => h2 (e.symm.trans h))]
    · rw [if_neg h]
      by_cases h3 : p.1 = k'
      · rw [if_pos h3, if_pos h3, if_neg (fun e => h (h3.trans e))]
      · rw [if_neg h3, if_neg h3]
theorem findK_putD {l : List (D × D)} {k k' v : D} : findK (putD l k v) k' = if k' = k then some v else findK l k' := by
  by_cases h : ∃ p ∈ l, p.1 = k
  · unfold putD
    rw [if_pos (by simpa using h), findK_map]
    by_cases h2 : k' = k
    · rw [if_pos h2, if_pos h2]
      subst h2
      cases e : findK l k' with
      | none => obtain ⟨p, hp, q⟩ := h; exact absurd q (findK_none.mp e p hp)
      | some x => rfl
    · rw [if_neg h2, if_neg h2]
  · have h' : ∀ p ∈ l, p.1 ≠ k := fun p hp e => h ⟨p, hp, e⟩
    rw [putD_new h']
    by_cases h2 : k' = k
    · rw [if_pos h2, h2, findK_append h', findK_cons, if_pos rfl]
    · rw [if_neg h2]
      cases e : findK l k' with
      | none => rw [findK_append (findK_none.mp e), findK_cons, if_neg (Ne.symm h2), findK_nil]
      | some x =>
        have : ∀ {r : List (D × D)}, findK l k' = some x → findK (l ++ r) k' = some x := by
          intro r
          clear h h' e
          induction l with
          | nil => intro e; cases e
          | cons p l ih =>
            rw [List.cons_append, findK_cons, findK_cons]
            split
            · exact id
            · exact ih
        exact this e
theorem putD_len {l : List (D × D)} {k v : D} : (putD l k v).length ≤ l.length + 1 := by
  unfold putD; split <;> simp
theorem findK_drop {l : List (D × D)} {k k' : D} : findK (dropD l k) k' = if k' = k then none else findK l k' := by
  induction l with
  | nil => simp [dropD, findK_nil]
  | cons p l ih =>
    unfold dropD at ih ⊢
    rw [List.filter_cons]
    by_cases h : p.1 = k
    · rw [if_neg (by simp [h]), ih, findK_cons]
      by_cases h2 : k' = k
      · rw [if_pos h2, if_pos h2]
      · rw [if_neg h2, if_neg h2, if_neg (fun e => h2 (e.symm.trans h))]
    · rw [if_pos (by simp [h]), findK_cons, ih, findK_cons]
      by_cases h2 : p.1 = k'
      · rw [if_pos h2, if_pos h2, if_neg (fun e => h (h2.trans e))]
      · rw [if_neg h2, if_neg h2]
theorem dropD_len {l : List (D × D)} {k : D} : (dropD l k).length ≤ l.length := List.length_filter_le ..
theorem gIn_dict {n : Nat} {kvs : List (D × D)} {k : D} {S : Sto} (h : S[n]? = some (.dict kvs)) (hk : isKey k = true) : gIn k (.ref n) S = .ok (.bl (findK kvs k).isSome) S := by
  unfold gIn inD; simp only [h, hk, if_true]
/-! loops -/
def Lp (gd : List (Nat × O)) (t : DG) (f : DS) : List D → RL.Env → Sto → RL.Env → Sto → Prop
  | [], e, S, e', S' => Grd gd S ∧ e' = e ∧ S' = S
  | d :: r, e, S, e', S' => Grd gd S ∧ ∃ e1 S1 e2 S2, t d e S = .ok e1 S1 ∧ (f e1 S1 = .nx e2 S2 ∨ f e1 S1 = .ct e2 S2) ∧ Lp gd t f r e2 S2 e' S'
theorem Lp.run {gd : List (Nat × O)} {t : DG} {f : DS} : ∀ {l : List D} {e e' : RL.Env} {S S' : Sto}, Lp gd t f l e S e' S' → forL gd t f l e S = .nx e' S'
  | [], _, _, _, _, ⟨g, h1, h2⟩ => by rw [forL_nil g, h1, h2]
  | _ :: _, _, _, _, _, ⟨g, e1, S1, e2, S2, h1, h2, h3⟩ => by
    rw [forL_cons g h1]
    rcases h2 with h2 | h2 <;> rw [h2] <;> simpa using h3.run
theorem Lp.grd {gd : List (Nat × O)} {t : DG} {f : DS} : ∀ {l : List D} {e e' : RL.Env} {S S' : Sto}, Lp gd t f l e S e' S' → Grd gd S'
  | [], _, _, _, _, ⟨g, _, h2⟩ => by rw [h2]; exact g
  | _ :: _, _, _, _, _, ⟨_, _, _, _, _, _, _, h3⟩ => h3.grd
theorem Lp.snoc {gd : List (Nat × O)} {t : DG} {f : DS} {d : D} : ∀ {l : List D} {e e' e1 e2 : RL.Env} {S S' S1 S2 : Sto}, Lp gd t f l e S e' S' → t d e' S' = .ok e1 S1 → (f e1 S1 = .nx e2 S2 ∨ f e1 S1 = .ct e2 S2) → Grd gd S2 → Lp gd t f (l ++ [d]) e S e2 S2
  | [], _, _, e1, e2, _, _, S1, S2, ⟨g, h1, h2⟩, ht, hf, hg => by subst h1; subst h2; exact ⟨g, e1, S1, e2, S2, ht, hf, hg, rfl, rfl⟩
  | _ :: _, _, _, _, _, _, _, _, _, ⟨g, a1, b1, a2, b2, h1, h2, h3⟩, ht, hf, hg => ⟨g, a1, b1, a2, b2, h1, h2, h3.snoc ht hf hg⟩
/-- a loop that goes through, or tells False at the first that is bad -/
theorem forL_all {α : Type} {h : α → D} {gd : List (Nat × O)} {t : DG} {f : DS} {p : α → Bool} {z : D} (I : RL.Env → Sto → Prop) (J : Sto → Prop) (hg : ∀ e S, I e S → Grd gd S) :
    ∀ {items : List α} {env : RL.Env} {S : Sto}, (∀ d ∈ items, ∀ e S, I e S → ∃ e1 S1, t (h d) e S = .ok e1 S1 ∧ (p d = true → ∃ e2 S2, f e1 S1 = .nx e2 S2 ∧ I e2 S2) ∧ (p d = false → ∃ S2, f e1 S1 = .rt z S2 ∧ J S2)) → I env S →
    (items.all p = true → ∃ e S', forL gd t f (items.map h) env S = .nx e S' ∧ I e S') ∧ (items.all p = false → ∃ S', forL gd t f (items.map h) env S = .rt z S' ∧ J S')
  | [], env, S, _, i => ⟨fun _ => ⟨env, S, forL_nil (hg _ _ i), i⟩, fun q => by cases q⟩
  | d :: r, env, S, hh, i => by
    obtain ⟨e1, S1, h1, h2, h3⟩ := hh d List.mem_cons_self env S i
    rw [List.map_cons, forL_cons (hg _ _ i) h1, List.all_cons]
    cases hp : p d with
    | true =>
      obtain ⟨e2, S2, h4, i2⟩ := h2 hp
      rw [h4, Bool.true_and]
      exact forL_all I J hg (fun x hx => hh x (List.mem_cons_of_mem _ hx)) i2
    | false =>
      obtain ⟨S2, h4, j⟩ := h3 hp
      rw [h4, Bool.false_and]
      exact ⟨fun q => (by cases q), fun _ => ⟨S2, rfl, j⟩⟩
theorem rangeD_at {lo : Int} {n i : Nat} {d : D} (h : (rangeD lo n)[i]? = some d) : i < n ∧ d = .int (lo + (i : Nat)) := by
  obtain ⟨h1, h2⟩ := List.getElem?_eq_some_iff.mp h
  simp [rangeD] at h1 h2
  exact ⟨h1, h2.symm⟩
theorem rangeD_len {lo : Int} {n : Nat} : (rangeD lo n).length = n := by simp [rangeD]
theorem p62 : ((2 : Int) ^ 62) = 4611686018427387904 := by rfl
theorem rg1_nat {b : Nat} {S : Sto} (h : b ≤ 100000) : rg1 [.int (b : Int)] S = .ok ⟨rangeD 0 b, []⟩ S := by
  have h1 : (b : Int) < 2 ^ 62 := by rw [p62]; omega
  have := rg1_ok (S := S) (j := (b : Int)) (Int.natCast_nonneg b) h1
  rwa [Int.toNat_natCast] at this
theorem rg2_nat {a b : Nat} {S : Sto} (h : b ≤ 100000) (h2 : a ≤ b) : rg2 [.int (a : Int), .int (b : Int)] S = .ok ⟨rangeD a (b - a), []⟩ S := by
  have h1 : -(2 ^ 62) ≤ (b : Int) ∧ (b : Int) < 2 ^ 62 := by rw [p62]; omega
  have h3 : -(2 ^ 62) ≤ (a : Int) ∧ (a : Int) < 2 ^ 62 := by rw [p62]; omega
  have := rg2_ok (S := S) (i := (a : Int)) (j := (b : Int)) h3 h1
  rwa [show ((b : Int) - (a : Int)).toNat = b - a by omega] at this
theorem enumD_get {xs : List D} {i : Nat} {d : D} (h : (enumD xs)[i]? = some d) : ∃ x, xs[i]? = some x ∧ d = .tup [.int (i : Nat), x] := by
  have hi : i < xs.length := by have := (List.getElem?_eq_some_iff.mp h).1; rwa [enumD_len] at this
  have := enumD_at (List.getElem?_eq_getElem hi)
  rw [h] at this
  exact ⟨_, List.getElem?_eq_getElem hi, Option.some.inj this⟩
theorem enumD_snoc {xs : List D} {x : D} : enumD (xs ++ [x]) = enumD xs ++ [.tup [.int (xs.length : Nat), x]] := by
  apply List.ext_getElem?
  intro i
  by_cases h : i < xs.length
  · rw [List.getElem?_append_left (by rw [enumD_len]; exact h), enumD_at (x := xs[i]) (by rw [List.getElem?_append_left h]; exact List.getElem?_eq_getElem h), enumD_at (List.getElem?_eq_getElem h)]
  · by_cases h2 : i = xs.length
    · subst h2
      rw [enumD_at (x := x) (by simp), List.getElem?_append_right (by rw [enumD_len]; omega), enumD_len]
      simp
    · rw [List.getElem?_eq_none (by rw [enumD_len]; simp; omega), List.getElem?_eq_none (by simp [enumD_len]; omega)]
@[simp] theorem dEnumA_eq {fs : DA} {env : RL.Env} {S : Sto} : dEnumA fs env S = (fs env S).bind enumAny := rfl
@[simp] theorem enumAny_tup {ds : List D} {S : Sto} : enumAny [.tup ds] S = .ok ⟨enumD ds, []⟩ S := rfl
theorem enumAny_lst {n : Nat} {ds : List D} {S : Sto} (h : S[n]? = some (.lst ds)) : enumAny [.ref n] S = .ok ⟨enumD ds, [(n, .lst ds)]⟩ S := by unfold enumAny enumOf lstG; simp only [h]
theorem dForN_dict {i n : Nat} {t : DG} {b : DS} {env : RL.Env} {S : Sto} {kvs : List (D × D)} (h1 : env[i]? = some (some (.ref n))) (h2 : S[n]? = some (.dict kvs)) : dForN i t b env S = unlockF n kvs (forL [(n, .fd kvs)] t b (kvs.map (·.1)) env (S.set n (.fd kvs))) := by
  unfold dForN dForD; simp only [h1, h2]
theorem dForN_lst {i n : Nat} {t : DG} {b : DS} {env : RL.Env} {S : Sto} {ds : List D} (h1 : env[i]? = some (some (.ref n))) (h2 : S[n]? = some (.lst ds)) : dForN i t b env S = forL [(n, .lst ds)] t b ds env S := by
  unfold dForN; simp only [h1, h2]; rw [dFor_eq]; simp [h1, h2, thenS]
def whR (c : DT) (b : DS) (n : Nat) : Fl → Fl
  | .nx e S2 => dWhileN c b n e S2
  | .ct e S2 => dWhileN c b n e S2
  | .bk e S2 => .nx e S2
  | r => r
theorem dWhileN_eq {c : DT} {b : DS} {n : Nat} {env : RL.Env} {S : Sto} : dWhileN c b (n + 1) env S = thenS (c env S) env fun k S1 => if k = true then whR c b n (b env S1) else .nx env S1 := by
  rw [dWhileN]; unfold whR; rfl
@[simp] theorem whR_nx {c : DT} {b : DS} {n : Nat} {e : RL.Env} {S : Sto} : whR c b n (.nx e S) = dWhileN c b n e S := rfl
@[simp] theorem dListRev_eq {fa : DE} {env : RL.Env} {S : Sto} : dListRev fa env S = (fa env S).bind revL := rfl
theorem revL_lst {n : Nat} {ds : List D} {S : Sto} (h : S[n]? = some (.lst ds)) : revL (.ref n) S = .ok (.ref S.length) (S ++ [.lst ds.reverse]) := by unfold revL; simp only [h]
end RL

/-! RL: xs[:k] = ys -/
namespace RL
open PySem PySem.Spec PyProof.Rows L2
section
variable {prog : Program} {w : World} {A : Around} {E : Value → Shared → Prop} {s : Shared}
theorem upto_bounds (c n : Nat) : sliceBounds none (some (c : Int)) none n = (0, ((min c n : Nat) : Int), 1) := by
  simp only [sliceBounds, Option.getD_none]
  have h2 : ¬ ((c : Int) < 0) := by omega
  simp only [h2, if_false, show (1 : Int) > 0 by decide, if_true]
  congr 1
  congr 1
  omega
theorem upto_lists (xs ys : List Value) (c : Nat) : xs.toArray.extract 0 0 ++ ys.toArray ++ xs.toArray.extract (min c xs.toArray.size) xs.toArray.size = (ys ++ xs.drop c).toArray := by
  apply Array.toList_inj.mp
  by_cases h : c ≤ xs.length
  · simp [Nat.min_eq_left h, List.take_of_length_le]
  · have h' : xs.length ≤ c := by omega
    simp [Nat.min_eq_right h', List.drop_of_length_le h']
/-- list.__setitem__ of a slice from the start on -/
theorem setItem_upto {l b sl : Addr} {xs ys : List Value} {n n2 : Nat} {vu : Value} {c : Nat} {Q : Unit → Shared → Prop}
    (e : s.heap.get? l = some { cls := .type "list", data := .seq xs.toArray n }) (e2 : s.heap.get? b = some { cls := .type "list", data := .seq ys.toArray n2 }) (ne : l ≠ b)
    (hs : s.heap.IsSliceOf sl .none vu .none) (pu : IsPart vu (some (c : Int))) (hz : xs.toArray.size + ys.toArray.size ≤ sizeLine)
    (h : Q () { s with heap := s.heap.update l (Obj.mapSeq fun zs => zs.extract 0 0 ++ ys.toArray ++ zs.extract (min c xs.toArray.size) zs.size) }) :
    wpAny (model prog w) A (setItem (.ref l) (.ref sl) (.ref b)) Q E s := by
  have hl : s.heap.IsList l xs.toArray := PySem.IsL.isList e
  have hb : s.heap.IsList b ys.toArray := PySem.IsL.isList e2
  obtain ⟨os, hos, hcs, hds⟩ := id hs
  have ts : s.TypeIs (.ref sl) "slice" := ⟨os, hos, hcs⟩
  have other : Builtin.List.listSameRef (.ref l) (.ref b) = false := by
    unfold Builtin.List.listSameRef
    exact beq_eq_false_iff_ne.mpr ne
  unfold setItem
  try with_reducible refine wpAny_holding ?_
  first | refine wpAny_bind (wpAny_pure ?_) | skip
  refine wpAny_bind (wpAny_sequenceKey hl.typeIs (by decide) ?_)
  refine wpAny_bind (wpAny_callSpecial?_slot (name := Str.ofString "__setitem__") hl.typeIs slot_list_setitem (wpAny_call_entry slot_list_setitem hl.typeIs entry_list_setitem ?_ (args_list_setitem _ _ _)))
  show wpAny _ _ (Builtin.List.listSubscript? (.ref sl) >>= _) _ _ s
  refine wpAny_bind ?_
  unfold Builtin.List.listSubscript?
  refine wpAny_bind (wpAny_specialOf ts slice_no_index ?_)
  simp only [Option.isNone_none, if_true]
  refine wpAny_pure ?_
  show wpAny _ _ (typeOf (.ref sl) >>= _) _ _ s
  refine wpAny_bind (wpAny_typeOf ts ?_)
  refine PySem.W.KFB.if_not (by decide) ?_
  rw [listSliceParts_eq]
  refine wpAny_bind (wpAny_bind (wpAny_field hos hds (x := .none) rfl (wpAny_bind (wpAny_listPart .none ?_))))
  rw [if_neg (show ¬ ((rawPart none == rawInt 0) = true) from Bool.false_ne_true)]
  refine wpAny_bind (wpAny_field hos hds (x := .none) rfl (wpAny_bind (wpAny_listPart .none ?_)))
  refine wpAny_bind (wpAny_field hos hds (x := vu) rfl (wpAny_bind (wpAny_listPart pu (wpAny_pure ?_))))
  refine PySem.W.KFB.if_not other ?_
  refine wpAny_bind (m := Builtin.List.listAllItems (.ref b) "must assign iterable to extended slice") ?_
  unfold Builtin.List.listAllItems
  refine wpAny_bind (wpAny_typeOf hb.typeIs ?_)
  refine PySem.W.KFB.if_so (by decide) ?_
  unfold Builtin.List.listItems
  refine wpAny_bind (wpAny_seqItems e2 rfl (wpAny_pure ?_))
  refine wpAny_bind (wpAny_bind (wpAny_seqItems e rfl (wpAny_pure ?_)))
  refine wpAny_bind (wpAny_of_eq ((sliceIndices_raw none (some (c : Int)) none xs.toArray.size (by simp)).trans (congrArg (pure : Int × Int × Int → Sem (Int × Int × Int)) (upto_bounds c _))) ?_)
  show wpAny _ _ (if ((1 : Int) == 1) = true then _ else _) _ _ s
  rw [if_pos (by decide)]
  refine wpAny_bind (wpAny_rule ?_)
  refine PySem.W.KFB.if_not (notLongL hz) ?_
  have top : (max (0 : Int) ((min c xs.toArray.size : Nat) : Int)).toNat = min c xs.toArray.size := by omega
  show wpAny _ _ (updateSeq l (fun zs => zs.extract 0 (0 : Int).toNat ++ ys.toArray ++ zs.extract (max (0 : Int) ((min c xs.toArray.size : Nat) : Int)).toNat zs.size) >>= _) _ _ s
  rw [top, show (0 : Int).toNat = 0 from rfl]
  have size : ((fun zs : Array Value => zs.extract 0 0 ++ ys.toArray ++ zs.extract (min c xs.toArray.size) zs.size) xs.toArray).size ≤ sizeLine + 1 := by
    simp only [Array.size_append, Array.size_extract]
    omega
  refine wpAny_bind (wpAny_updateSeq (hz := Nat.le_trans (Nat.le_add_right _ _) hz) (_hz' := size) e rfl ?_)
  refine wpAny_bind (wpAny_letGo ?_)
  first
    | exact wpAny_bind (wpAny_pure (wpAny_pure ⟨.none, rfl, wpAny_pure h⟩))
    | exact wpAny_pure ⟨.none, rfl, wpAny_pure h⟩
end
section
variable {X : Cx} {raw : List (Nat × V)}
/-- xs[:k] = ys -/
def gUpto (k : Nat) (to : TE) : TG := fun v σ H Q => to σ H fun o H1 => ∃ l b xs ys, o = .ref l ∧ v = .ref b ∧ l ≠ b ∧ H1 l = some (.lst xs) ∧ H1 b = some (.lst ys) ∧ xs.length + ys.length ≤ sizeLine ∧ Q σ (upd H1 l (.lst (ys ++ xs.drop k)))
theorem pg_upto {o : Expr} {to : TE} {k : Nat} {j : Nat} {pos p1 p2 : Pos} (ho : PE X o to) : PG X (.Subscript o (.Slice none (some (.Constant (.int (k : Int)) j p1)) none p2) pos) (gUpto k to) := by
  refine ⟨fun pins s σ H v u Q I r h => ?_⟩
  rw [assign_Subscript]
  refine wpAny_bind (wpAny_holding (thn (ho.run pins s σ H _ I h) fun ov s1 ⟨x, H1, I1, r1, l, b, xs, ys, ex, ev, ne, hl, hb, hz, q⟩ => ?_))
  subst ex ev
  cases r1
  cases r
  refine wpAny_bind (wpAny_holding (wpAny_Slice ?_))
  rw [evalPart_none, evalPart_some]
  refine wpAny_pure (thn ((pe_int (X := X) (i := (k : Int)) (j := j) (pos := p1)).run pins s1 σ H1 (fun y H2 => y = .int (k : Int) ∧ H2 = H1) I1 ⟨rfl, rfl⟩) fun uv s2 ⟨y, H2, I2, r2, ey, eh⟩ => ?_)
  subst ey eh
  obtain ⟨t, rfl⟩ := r2
  refine wpAny_pure ?_
  have I3 : Inv X pins σ H2 { s2 with heap := s2.heap.push { cls := .type "slice", data := .fields #[.none, .int (k : Int) t, .none] } } := I2.kept (t' := s2.toks) fun b ob q => Heap.get?_push_of_some _ q
  refine wpAny_bind (wpAny_standAt (wpAny_bind (wpAny_holding ?_)))
  obtain ⟨z, its, n, rv, hlen, e⟩ := I3.lstM hl
  obtain ⟨z2, its2, n2, rv2, hlen2, e2⟩ := I3.lstM hb
  refine setItem_upto (c := k) e e2 ne (Heap.IsSliceOf.new ..) (.int _ _) (by rw [List.size_toArray, List.size_toArray]; omega) ?_
  refine wpAny_release ⟨σ, _, I3.lset (its' := its2 ++ its.drop k) (t' := s2.toks) hl e ?_ (Vals.append rv2 (rv.drop _)) ?_, q⟩
  · exact upto_lists its its2 k
  · rw [List.length_append, List.length_drop]; omega
def setU (k : Nat) (o v : D) (S : Sto) : R Unit := match o, v with
  | .ref n, .ref m => match S[n]?, S[m]? with
    | some (.lst ds), some (.lst es) => if n ≠ m ∧ ds.length + es.length ≤ lim then .ok () (S.set n (.lst (es ++ ds.drop k))) else .err
    | _, _ => .err
  | _, _ => .err
/-- fo[:k] = v -/
def sUpto (k : Nat) (fo : DE) : DG := fun v env S => (noEx (fo env S)).bind fun o S1 => (setU k o v S1).bind fun _ S2 => .ok env S2
theorem gx_upto {o : Expr} {fo : DE} {k j : Nat} {pos p1 p2 : Pos} (ho : EX X raw W0 o fo) : GX X raw (.Subscript o (.Slice none (some (.Constant (.int (k : Int)) j p1)) none p2) pos) (sUpto k fo) :=
  PG.imp (pg_upto ho) fun v σ H Q ⟨ρ, env, S, d, e, s, r, h⟩ => by
    unfold sUpto at h
    refine ⟨ρ, env, S, e, s, ?_⟩
    cases q : fo env S with
    | ok d1 S1 =>
      rw [q] at h
      intro o1 ρ1 H1 st1 s1 r1
      have h1 := PostG.later h st1
      simp only [noEx, R.bind_ok] at h1
      have r' := r.mono st1
      cases q3 : setU k d1 d S1 with
      | ok u S3 =>
        rw [q3] at h1
        unfold setU at q3
        split at q3
        · rename_i n m
          cases r1 with
          | ref hn =>
            cases r' with
            | ref hm =>
              split at q3
              · rename_i ds es hS hS2
                split at q3
                · rename_i c
                  cases q3
                  obtain ⟨xs, hx, lx⟩ := s1.ob _ _ _ hS hn
                  obtain ⟨ys, hy, ly⟩ := s1.ob _ _ _ hS2 hm
                  refine ⟨_, _, xs, ys, rfl, rfl, fun z => ?_, hx, hy, by rw [lx.length, ly.length, lim_eq]; exact c.2, h1 σ ρ1 _ (wr s1 hn) (s1.write hn ⟨_, hx, trivial⟩ ⟨_, upd_same, (RepL.append ly (lx.drop k)).mono (wr s1 hn)⟩) ((e.mono st1).mono (wr s1 hn))⟩
                  subst z
                  obtain ⟨i1, e1⟩ := List.getElem?_eq_some_iff.mp hn
                  obtain ⟨i2, e2⟩ := List.getElem?_eq_some_iff.mp hm
                  exact c.1 ((List.getElem_inj s1.nd).mp (e1.trans e2.symm))
                · cases q3
              · cases q3
        · cases q3
      | exc c S3 => rw [q3] at h1; exact h1.elim
      | err => rw [q3] at h1; exact h1.elim
    | exc c S1 => rw [q] at h; exact h.elim
    | err => rw [q] at h; exact h.elim
end
end RL

namespace LK
open PySem PySem.Spec PyProof.Rows L2 RL
def c_KINDS : D := (.tup [(.str "register"), (.str "counter"), (.str "queue"), (.str "set"), (.str "cell")])
def c_MOST : D := (.int 1000000000)
def t_FORMS : List (Str × D) := [("register write", (.str "one")), ("register read", (.str "none")), ("counter add", (.str "one")), ("counter read", (.str "none")), ("queue put", (.str "one")), ("queue take", (.str "none")), ("set put", (.str "one")), ("set cut", (.str "one")), ("set has", (.str "one")), ("cell read", (.str "none")), ("cell write", (.str "one")), ("cell swap", (.str "two"))]
noncomputable def b_law_cell_at : DS :=
  (dSeq (dIf (dT (dBin gLt (dV 1) (dCB gLen (dConsA (dV 0) dNilA)))) (dRet (dBin gIx (dV 0) (dV 1))) dSkip)
  (dRet (dC (.int 0))))
noncomputable def m_law_cell_at : Fn := runB 2 b_law_cell_at
noncomputable def l_law_same_0 (mrec : Fn) : DS :=
  (dIf (dNot (dT (dCall 2 mrec (dConsA (dV 2) (dConsA (dV 3) dNilA))))) (dRet (dC (.bl false))) dSkip)
noncomputable def b_law_same (mrec : Fn) : DS :=
  (dSeq (dIf (dT (dUn (gIsi "tuple") (dV 1))) (dSeq (dIf (dOr (dNot (dT (dUn (gIsi "tuple") (dV 0)))) (dT (dBin gNe (dCB gLen (dConsA (dV 0) dNilA)) (dCB gLen (dConsA (dV 1) dNilA))))) (dRet (dC (.bl false))) dSkip)
  (dSeq (dFor (dZip (dConsA (dV 0) (dConsA (dV 1) dNilA))) (sTup 2 (sCons (sName 2) (sCons (sName 3) sNil))) (l_law_same_0 mrec))
  (dRet (dC (.bl true))))) dSkip)
  (dSeq (dIf (dT (dUn (gIsi "str") (dV 1))) (dRet (dAndV (dUn (gIsi "str") (dV 0)) (dBin gEq (dV 0) (dV 1)))) dSkip)
  (dRet (dAndV (dUn (gIsi "int") (dV 0)) (dAndV (dNotV (dUn (gIsi "bool") (dV 0))) (dBin gEq (dV 0) (dV 1)))))))
noncomputable def m_law_same : Nat → Fn
  | 0 => errF
  | k + 1 => runB 4 (b_law_same (m_law_same k))
noncomputable def b_law_stream : DS :=
  (dSeq (dSet 2 (dBin gMod (dV 0) (dC (.int 536870909))))
  (dRet (dLst (dConsA (dV 0) (dConsA (dV 1) (dConsA (dBin gMod (dBin gAdd (dBin gMul (dBin gMod (dBin gMul (dV 2) (dV 2)) (dC (.int 536870909))) (dBin gAdd (dV 2) (dC (.int 7)))) (dC (.int 13))) (dC (.int 536870909))) dNilA))))))
noncomputable def m_law_stream : Fn := runB 3 b_law_stream
noncomputable def b_law_take : DS :=
  (dSeq (dIf (dAnd (dT (dBin gEq (dBin gIx (dV 0) (dC (.int 1))) (dC (.int 0)))) (dT (dBin gNotIn (dBin gIx (dV 0) (dC (.int 0))) (dTup (dConsA (dC (.int 0)) (dConsA (dUn gNeg (dC (.int 1))) dNilA)))))) (dSeq (dSet 2 (dBin gMod (dBin gIx (dV 0) (dC (.int 0))) (dV 1)))
  (dSeq (dAsg (dBin gDiv (dBin gIx (dV 0) (dC (.int 0))) (dV 1)) (sSub (dV 0) (dC (.int 0))))
  (dRet (dV 2)))) dSkip)
  (dSeq (dAsg (dBin gMod (dBin gMul (dBin gAdd (dBin gIx (dV 0) (dC (.int 2))) (dC (.int 7919))) (dBin gAdd (dBin gIx (dV 0) (dC (.int 2))) (dC (.int 104729)))) (dC (.int 536870909))) (sSub (dV 0) (dC (.int 2))))
  (dRet (dBin gMod (dBin gAdd (dBin gMul (dBin gIx (dV 0) (dC (.int 2))) (dC (.int 48271))) (dC (.int 11))) (dV 1)))))
noncomputable def m_law_take : Fn := runB 3 b_law_take
noncomputable def b_law_worth : DS :=
  (dSeq (dSet 1 (dCall 2 m_law_take (dConsA (dV 0) (dConsA (dC (.int 4)) dNilA))))
  (dSeq (dIf (dT (dBin gEq (dV 1) (dC (.int 0)))) (dRet (dBin gSub (dCall 2 m_law_take (dConsA (dV 0) (dConsA (dBin gAdd (dBin gMul (dC (.int 2)) (dBin gPow (dC (.int 10)) (dC (.int 9)))) (dC (.int 1))) dNilA))) (dBin gPow (dC (.int 10)) (dC (.int 9))))) dSkip)
  (dSeq (dIf (dT (dBin gEq (dV 1) (dC (.int 1)))) (dRet (dBin gIx (dLst (dConsA (dBin gPow (dC (.int 10)) (dC (.int 9))) (dConsA (dUn gNeg (dBin gPow (dC (.int 10)) (dC (.int 9)))) (dConsA (dBin gSub (dBin gPow (dC (.int 10)) (dC (.int 9))) (dC (.int 1))) (dConsA (dBin gSub (dC (.int 1)) (dBin gPow (dC (.int 10)) (dC (.int 9)))) dNilA))))) (dCall 2 m_law_take (dConsA (dV 0) (dConsA (dC (.int 4)) dNilA))))) dSkip)
  (dRet (dBin gSub (dCall 2 m_law_take (dConsA (dV 0) (dConsA (dC (.int 7)) dNilA))) (dC (.int 3)))))))
noncomputable def m_law_worth : Fn := runB 2 b_law_worth
noncomputable def b_do_in_queue : DS :=
  (dSeq (dIf (dT (dBin gEq (dV 1) (dC (.str "put")))) (dRet (dTup (dConsA (dBin gAdd (dV 0) (dTup (dConsA (dV 2) dNilA))) (dConsA (dC (.str "ok")) dNilA)))) dSkip)
  (dSeq (dIf (dT (dBin gEq (dV 0) (dTup dNilA))) (dRet (dTup (dConsA (dV 0) (dConsA (dC (.str "none")) dNilA)))) dSkip)
  (dRet (dTup (dConsA (dSl gSl (dV 0) (dPart (dC (.int 1))) dNoPart) (dConsA (dBin gIx (dV 0) (dC (.int 0))) dNilA))))))
noncomputable def m_do_in_queue : Fn := runB 3 b_do_in_queue
noncomputable def b_with_worth : DS :=
  (dSeq (dIf (dT (dBin gIn (dV 1) (dV 0))) (dRet (dTup (dConsA (dV 0) (dConsA (dC (.int 0)) dNilA)))) dSkip)
  (dRet (dTup (dConsA (dCB gTuple (dConsA (dCB gSorted (dConsA (dBin gAdd (dV 0) (dTup (dConsA (dV 1) dNilA))) dNilA)) dNilA)) (dConsA (dC (.int 1)) dNilA)))))
noncomputable def m_with_worth : Fn := runB 2 b_with_worth
noncomputable def b_without_worth : DS :=
  (dSeq (dIf (dT (dBin gNotIn (dV 1) (dV 0))) (dRet (dTup (dConsA (dV 0) (dConsA (dC (.int 0)) dNilA)))) dSkip)
  (dRet (dTup (dConsA (dCB gTuple (dConsA (dLc (Sum.inl 2) [2] (dItA (dV 0)) (dT (dBin gNe (dV 2) (dV 1))) (dV 2)) dNilA)) (dConsA (dC (.int 1)) dNilA)))))
noncomputable def m_without_worth : Fn := runB 3 b_without_worth
noncomputable def b_do_in_set : DS :=
  (dSeq (dIf (dT (dBin gEq (dV 1) (dC (.str "put")))) (dRet (dCall 2 m_with_worth (dConsA (dV 0) (dConsA (dV 2) dNilA)))) dSkip)
  (dSeq (dIf (dT (dBin gEq (dV 1) (dC (.str "cut")))) (dRet (dCall 2 m_without_worth (dConsA (dV 0) (dConsA (dV 2) dNilA)))) dSkip)
  (dRet (dTup (dConsA (dV 0) (dConsA (dCB gInt (dConsA (dBin gIn (dV 2) (dV 0)) dNilA)) dNilA))))))
noncomputable def m_do_in_set : Fn := runB 3 b_do_in_set
noncomputable def b_is_worth : DS :=
  (dRet (dAndV (dUn (gIsi "int") (dV 0)) (dAndV (dNotV (dUn (gIsi "bool") (dV 0))) (dChain gLe gLe (dBin gSub (dC (.int 0)) (dC c_MOST)) (dV 0) (dC c_MOST)))))
noncomputable def m_is_worth : Fn := runB 1 b_is_worth
noncomputable def b_is_formed : DS :=
  (dSeq (dIf (dT (dBin gEq (dV 0) (dC (.str "none")))) (dRet (dBin gIsN (dV 1) (dC .non))) dSkip)
  (dSeq (dIf (dT (dBin gEq (dV 0) (dC (.str "one")))) (dRet (dCall 1 m_is_worth (dConsA (dV 1) dNilA))) dSkip)
  (dRet (dAndV (dUn (gIsi "tuple") (dV 1)) (dAndV (dBin gEq (dCB gLen (dConsA (dV 1) dNilA)) (dC (.int 2))) (dAndV (dCall 1 m_is_worth (dConsA (dBin gIx (dV 1) (dC (.int 0))) dNilA)) (dCall 1 m_is_worth (dConsA (dBin gIx (dV 1) (dC (.int 1))) dNilA))))))))
noncomputable def m_is_formed : Fn := runB 2 b_is_formed
noncomputable def b_is_deed : DS :=
  (dSeq (dIf (dOr (dNot (dT (dUn (gIsi "str") (dV 0)))) (dNot (dT (dUn (gIsi "str") (dV 1))))) (dRet (dC (.bl false))) dSkip)
  (dSeq (dSet 3 (dBin gAdd (dBin gAdd (dV 0) (dC (.str " "))) (dV 1)))
  (dRet (dAndV (dBin gIn (dV 0) (dC c_KINDS)) (dAndV (dUn (gInK t_FORMS) (dV 3)) (dCall 2 m_is_formed (dConsA (dUn (gIxK t_FORMS) (dV 3)) (dConsA (dV 2) dNilA))))))))
noncomputable def m_is_deed : Fn := runB 4 b_is_deed
noncomputable def b_do : DS :=
  (dSeq (dIf (dNot (dT (dCall 3 m_is_deed (dConsA (dV 0) (dConsA (dV 2) (dConsA (dV 3) dNilA)))))) (dRaise "NoDeed") dSkip)
  (dSeq (dIf (dT (dBin gEq (dV 0) (dC (.str "set")))) (dRet (dCall 3 m_do_in_set (dConsA (dV 1) (dConsA (dV 2) (dConsA (dV 3) dNilA))))) dSkip)
  (dSeq (dIf (dT (dBin gEq (dV 0) (dC (.str "queue")))) (dRet (dCall 3 m_do_in_queue (dConsA (dV 1) (dConsA (dV 2) (dConsA (dV 3) dNilA))))) dSkip)
  (dSeq (dIf (dT (dBin gEq (dV 2) (dC (.str "read")))) (dRet (dTup (dConsA (dV 1) (dConsA (dV 1) dNilA)))) dSkip)
  (dSeq (dIf (dT (dBin gEq (dV 2) (dC (.str "write")))) (dRet (dTup (dConsA (dV 3) (dConsA (dC (.str "ok")) dNilA)))) dSkip)
  (dSeq (dIf (dT (dBin gEq (dV 2) (dC (.str "add")))) (dRet (dTup (dConsA (dBin gAdd (dV 1) (dV 3)) (dConsA (dV 1) dNilA)))) dSkip)
  (dSeq (dIf (dT (dBin gEq (dV 1) (dBin gIx (dV 3) (dC (.int 0))))) (dRet (dTup (dConsA (dBin gIx (dV 3) (dC (.int 1))) (dConsA (dC (.int 1)) dNilA)))) dSkip)
  (dRet (dTup (dConsA (dV 1) (dConsA (dC (.int 0)) dNilA)))))))))))
noncomputable def m_do : Fn := runB 4 b_do
noncomputable def b_first_state : DS :=
  (dSeq (dIf (dOr (dNot (dT (dUn (gIsi "str") (dV 0)))) (dT (dBin gNotIn (dV 0) (dC c_KINDS)))) (dRaise "NoDeed") dSkip)
  (dSeq (dIf (dT (dBin gIn (dV 0) (dTup (dConsA (dC (.str "queue")) (dConsA (dC (.str "set")) dNilA))))) (dRet (dTup dNilA)) dSkip)
  (dRet (dC (.int 0)))))
noncomputable def m_first_state : Fn := runB 1 b_first_state
noncomputable def l_law_0 : DS :=
  (dSeq (dSet 4 (dCall 2 m_law_stream (dConsA (dBin gDiv (dV 3) (dC (.int 2))) (dConsA (dV 1) dNilA))))
  (dSeq (dSet 5 (dBin gIx (dV 2) (dCall 2 m_law_take (dConsA (dV 4) (dConsA (dC (.int 2)) dNilA)))))
  (dSeq (dSet 6 (dCB gTuple (dConsA (dV 5) dNilA)))
  (dSeq (dIf (dT (dBin gLt (dCall 2 m_law_take (dConsA (dV 4) (dConsA (dC (.int 5)) dNilA))) (dC (.int 3)))) (dSeq (dSet 7 (dCall 1 m_law_worth (dConsA (dV 4) dNilA)))
  (dSeq (dSet 8 (dCall 4 m_do (dConsA (dC (.str "queue")) (dConsA (dV 6) (dConsA (dC (.str "put")) (dConsA (dV 7) dNilA))))))
  (dSeq (dDrop (dMt "list" gAppend (dV 5) (dConsA (dV 7) dNilA)))
  (dSet 9 (dTup (dConsA (dCB gTuple (dConsA (dV 5) dNilA)) (dConsA (dC (.str "ok")) dNilA))))))) (dSeq (dSet 8 (dCall 4 m_do (dConsA (dC (.str "queue")) (dConsA (dV 6) (dConsA (dC (.str "take")) (dConsA (dC .non) dNilA))))))
  (dSeq (dSet 10 (dBin gIx (dBin gAdd (dV 5) (dLst (dConsA (dC (.str "none")) dNilA))) (dC (.int 0))))
  (dSeq (dAsg (dLst dNilA) (sUpto 1 (dV 5)))
  (dSet 9 (dTup (dConsA (dCB gTuple (dConsA (dV 5) dNilA)) (dConsA (dV 10) dNilA))))))))
  (dIf (dNot (dT (dCall 2 (m_law_same 8) (dConsA (dV 8) (dConsA (dV 9) dNilA))))) (dRet (dC (.bl false))) dSkip)))))
noncomputable def l_law_1 : DS :=
  (dSeq (dAsg (dCall 4 m_do (dConsA (dC (.str "queue")) (dConsA (dV 6) (dConsA (dC (.str "take")) (dConsA (dC .non) dNilA))))) (sTup 2 (sCons (sName 6) (sCons (sName 10) sNil))))
  (dIf (dNot (dT (dCall 2 (m_law_same 8) (dConsA (dV 10) (dConsA (dV 7) dNilA))))) (dRet (dC (.bl false))) dSkip))
noncomputable def l_law_2 : DS :=
  (dSeq (dSet 6 (dCB gTuple (dConsA (dV 5) dNilA)))
  (dSeq (dFor (dItA (dV 5)) (sName 7) l_law_1)
  (dIf (dNot (dT (dCall 2 (m_law_same 8) (dConsA (dCall 4 m_do (dConsA (dC (.str "queue")) (dConsA (dV 6) (dConsA (dC (.str "take")) (dConsA (dC .non) dNilA))))) (dConsA (dTup (dConsA (dTup dNilA) (dConsA (dC (.str "none")) dNilA))) dNilA))))) (dRet (dC (.bl false))) dSkip)))
noncomputable def b_law : DS :=
  (dSeq (dSet 1 (dBin gMod (dCall 2 m_law_cell_at (dConsA (dV 0) (dConsA (dC (.int 0)) dNilA))) (dC (.int 2))))
  (dSeq (dSet 2 (dLst (dConsA (dLst dNilA) (dConsA (dLst dNilA) dNilA))))
  (dSeq (dFor (dItA (dSl gSl (dV 0) dNoPart (dPart (dC (.int 63))))) (sName 3) l_law_0)
  (dSeq (dFor (dItA (dV 2)) (sName 5) l_law_2)
  (dRet (dCall 2 (m_law_same 8) (dConsA (dCall 1 m_first_state (dConsA (dC (.str "queue")) dNilA)) (dConsA (dTup dNilA) dNilA))))))))
noncomputable def m_law : Fn := runB 11 b_law

def Keep (n : Nat) (S S' : Sto) : Prop := S.length ≤ S'.length ∧ ∀ k, k < S.length → k ≠ n → S'[k]? = S[k]?
theorem Keep.refl (n : Nat) (S : Sto) : Keep n S S := ⟨Nat.le_refl _, fun _ _ _ => rfl⟩
theorem Keep.trans {n : Nat} {S S1 S2 : Sto} (a : Keep n S S1) (b : Keep n S1 S2) : Keep n S S2 := ⟨Nat.le_trans a.1 b.1, fun k h1 h2 => (b.2 k (Nat.lt_of_lt_of_le h1 a.1) h2).trans (a.2 k h1 h2)⟩
theorem Keep.set (n : Nat) (S : Sto) (o : O) : Keep n S (S.set n o) := ⟨by simp, fun k _ h => by rw [List.getElem?_set_ne (Ne.symm h)]⟩
theorem Keep.app (n : Nat) (S : Sto) (l : List O) : Keep n S (S ++ l) := ⟨by simp, fun k h _ => by rw [List.getElem?_append_left h]⟩
theorem Keep.at {n k : Nat} {S S' : Sto} {o : O} (a : Keep n S S') (h : S[k]? = some o) (hk : k ≠ n) : S'[k]? = some o := (a.2 k (List.getElem?_eq_some_iff.mp h).1 hk).trans h
def RowAt (S : Sto) (n : Nat) : Prop := ∃ a w c : Int, S[n]? = some (.lst [.int a, .int w, .int c]) ∧ 0 ≤ c ∧ c < 536870909
theorem RowAt.app {S : Sto} {n : Nat} (h : RowAt S n) (l : List O) : RowAt (S ++ l) n := by
  obtain ⟨a, w, c, h, q⟩ := h
  exact ⟨a, w, c, by rw [List.getElem?_append_left (List.getElem?_eq_some_iff.mp h).1]; exact h, q⟩
theorem take_spec {S : Sto} {n : Nat} {m : Int} (hR : RowAt S n) (m0 : 0 < m) (m1 : m < 2 ^ 200) :
    ∃ t S', m_law_take [.ref n, .int m] S = .ok (.int t) S' ∧ 0 ≤ t ∧ t < m ∧ RowAt S' n ∧ Keep n S S' := by
  obtain ⟨a, w, c, h, c0, c1⟩ := hR
  have hn : n < S.length := (List.getElem?_eq_some_iff.mp h).1
  by_cases hw : w = 0 ∧ a ≠ 0 ∧ a ≠ -1
  · obtain ⟨h1, h2, h3⟩ := hw
    refine ⟨a % m, S.set n (.lst [.int (a / m), .int w, .int c]), ?_, Int.emod_nonneg _ (by omega), Int.emod_lt_of_pos _ m0, ⟨a / m, w, c, by simp [hn], c0, c1⟩, Keep.set ..⟩
    simp [m_law_take, b_law_take, runB_eq, h, h1, h2, h3, newT_ok, gMod_int m0, gDiv_int m0 m1, Ne.symm h2, Ne.symm h3]
  · have q1 : 0 ≤ (c + 7919) * (c + 104729) % 536870909 ∧ (c + 7919) * (c + 104729) % 536870909 < 536870909 := ⟨Int.emod_nonneg _ (by omega), Int.emod_lt_of_pos _ (by omega)⟩
    have b1 : (c + 7919).natAbs < 2 ^ 200 ∧ (c + 104729).natAbs < 2 ^ 200 := by
      have : (c + 7919).natAbs < 2 ^ 60 ∧ (c + 104729).natAbs < 2 ^ 60 := by omega
      exact ⟨Nat.lt_of_lt_of_le this.1 (Nat.pow_le_pow_right (by omega) (by omega)), Nat.lt_of_lt_of_le this.2 (Nat.pow_le_pow_right (by omega) (by omega))⟩
    have b2 : ((c + 7919) * (c + 104729) % 536870909).natAbs < 2 ^ 200 ∧ (48271 : Int).natAbs < 2 ^ 200 := by
      have : ((c + 7919) * (c + 104729) % 536870909).natAbs < 2 ^ 60 := by omega
      exact ⟨Nat.lt_of_lt_of_le this (Nat.pow_le_pow_right (by omega) (by omega)), by decide⟩
    have rest : ∀ (env : RL.Env), env[0]? = some (some (.ref n)) → env[1]? = some (some (.int m)) → (Fl.seq (Fl.nx env S) (dSeq (dAsg (dBin gMod (dBin gMul (dBin gAdd (dBin gIx (dV 0) (dC (D.int 2))) (dC (D.int 7919))) (dBin gAdd (dBin gIx (dV 0) (dC (D.int 2))) (dC (D.int 104729)))) (dC (D.int 536870909))) (sSub (dV 0) (dC (D.int 2))))
        (dRet (dBin gMod (dBin gAdd (dBin gMul (dBin gIx (dV 0) (dC (D.int 2))) (dC (D.int 48271))) (dC (D.int 11))) (dV 1))))).toR =
        .ok (.int (((c + 7919) * (c + 104729) % 536870909 * 48271 + 11) % m)) (S.set n (.lst [.int a, .int w, .int ((c + 7919) * (c + 104729) % 536870909)])) := by
      intro env e0 e1
      simp [h, e0, e1, setAt hn, gMul_int b1, gMod_int (show (0:Int) < 536870909 by omega), gMul_int b2, gMod_int m0]
    refine ⟨((c + 7919) * (c + 104729) % 536870909 * 48271 + 11) % m, S.set n (.lst [.int a, .int w, .int ((c + 7919) * (c + 104729) % 536870909)]), ?_, Int.emod_nonneg _ (by omega), Int.emod_lt_of_pos _ m0, ⟨a, w, _, by simp [hn], q1.1, q1.2⟩, Keep.set ..⟩
    rw [← rest [some (.ref n), some (.int m), none] rfl rfl]
    unfold m_law_take b_law_take
    rw [runB_eq, dSeq_eq]
    congr 2
    by_cases h1 : w = 0
    · by_cases h2 : a = 0
      · simp [h, h1, h2, newT_ok]
      · have h3 : a = -1 := by
          by_cases h3 : a = -1
          · exact h3
          · exact absurd ⟨h1, h2, h3⟩ hw
        simp [h, h1, h3, newT_ok]
    · simp [h, h1]
theorem worth_spec {S : Sto} {n : Nat} (hR : RowAt S n) : ∃ i S', m_law_worth [.ref n] S = .ok (.int i) S' ∧ -1000000000 ≤ i ∧ i ≤ 1000000000 ∧ RowAt S' n ∧ Keep n S S' := by
  obtain ⟨t, S1, e1, t0, t1, R1, K1⟩ := take_spec hR (m := 4) (by omega) (by decide)
  by_cases h0 : t = 0
  · obtain ⟨u, S2, e2, u0, u1, R2, K2⟩ := take_spec R1 (m := 2000000001) (by omega) (by decide)
    refine ⟨u - 1000000000, S2, ?_, by omega, by omega, R2, K1.trans K2⟩
    simp [m_law_worth, b_law_worth, runB_eq, e1, h0, e2, gMul_int (i := 2) (j := 1000000000) (by decide)]
  · by_cases h1 : t = 1
    · obtain ⟨u, S2, e2, u0, u1, R2, K2⟩ := take_spec (R1.app [.lst [.int 1000000000, .int (-1000000000), .int 999999999, .int (-999999999)]]) (m := 4) (by omega) (by decide)
      have hS2 : S2[S1.length]? = some (.lst [.int 1000000000, .int (-1000000000), .int 999999999, .int (-999999999)]) :=
        K2.at (by simp) (fun e => by obtain ⟨_, _, _, q, _⟩ := R1; have := (List.getElem?_eq_some_iff.mp q).1; omega)
      obtain ⟨d, hd, hm⟩ := atI_mem (xs := [D.int 1000000000, .int (-1000000000), .int 999999999, .int (-999999999)]) u0 (by simpa using u1)
      have : ∃ i, d = .int i ∧ -1000000000 ≤ i ∧ i ≤ 1000000000 := by
        simp at hm
        rcases hm with rfl | rfl | rfl | rfl <;> exact ⟨_, rfl, by omega, by omega⟩
      obtain ⟨i, rfl, i0, i1⟩ := this
      refine ⟨i, S2, ?_, i0, i1, R2, (K1.trans (Keep.app ..)).trans K2⟩
      simp [m_law_worth, b_law_worth, runB_eq, e1, h1, newL_ok, e2, hS2, hd]
    · obtain ⟨u, S2, e2, u0, u1, R2, K2⟩ := take_spec R1 (m := 7) (by omega) (by decide)
      refine ⟨u - 3, S2, ?_, by omega, by omega, R2, K1.trans K2⟩
      simp [m_law_worth, b_law_worth, runB_eq, e1, h0, h1, e2]

theorem RowAt.ne {S : Sto} {n : Nat} (h : RowAt S n) : n < S.length := by obtain ⟨_, _, _, q, _⟩ := h; exact (List.getElem?_eq_some_iff.mp q).1

theorem stream_spec {S : Sto} {c w : Int} : ∃ S', m_law_stream [.int c, .int w] S = .ok (.ref S.length) S' ∧ RowAt S' S.length ∧ Keep S.length S S' := by
  have q : 0 ≤ c % 536870909 ∧ c % 536870909 < 536870909 := ⟨Int.emod_nonneg _ (by omega), Int.emod_lt_of_pos _ (by omega)⟩
  have p : (2:Nat) ^ 60 ≤ 2 ^ 200 := Nat.pow_le_pow_right (by omega) (by omega)
  have b1 : (c % 536870909).natAbs < 2 ^ 200 := by omega
  have q2 : 0 ≤ c % 536870909 * (c % 536870909) % 536870909 ∧ c % 536870909 * (c % 536870909) % 536870909 < 536870909 := ⟨Int.emod_nonneg _ (by omega), Int.emod_lt_of_pos _ (by omega)⟩
  have b2 : (c % 536870909 * (c % 536870909) % 536870909).natAbs < 2 ^ 200 := by omega
  have b3 : (c % 536870909 + 7).natAbs < 2 ^ 200 := by omega
  refine ⟨_, by
    simp [m_law_stream, b_law_stream, runB_eq, gMod_int (show (0:Int) < 536870909 by omega), gMul_int ⟨b1, b1⟩, gMul_int ⟨b2, b3⟩, newL_ok]
    rfl, ⟨c, w, (c % 536870909 * (c % 536870909) % 536870909 * (c % 536870909 + 7) + 13) % 536870909, by simp, Int.emod_nonneg _ (by omega), Int.emod_lt_of_pos _ (by omega)⟩, Keep.app ..⟩
def isInt (d : D) : Prop := ∃ i, d = .int i
theorem cutD_mem {xs : List D} {lo hi : Option Int} {d : D} (h : d ∈ RL.cutD xs lo hi) : d ∈ xs := by
  unfold RL.cutD at h
  exact List.mem_of_mem_drop (List.mem_of_mem_take h)
theorem cell_at0 {ns : List Int} {S : Sto} : ∃ i, m_law_cell_at [.scr (ns.map D.int), .int 0] S = .ok (.int i) S := by
  cases ns with
  | nil => exact ⟨0, by simp [m_law_cell_at, b_law_cell_at, runB_eq]⟩
  | cons a r => exact ⟨a, by
      have : (0 : Int) < (r.length : Int) + 1 := by omega
      simp [m_law_cell_at, b_law_cell_at, runB_eq, this]⟩

def Th (d : D) (S : Sto) : Prop := flatD d = true ∨ (∃ k l, d = .ref k ∧ S[k]? = some (.lst l)) ∨ (∃ k l, d = .ref k ∧ S[k]? = some (.dict l)) ∨ (∃ l, d = .tup l ∧ l.all flatD = true)
theorem Th.app {d : D} {S : Sto} (h : Th d S) (l : List O) : Th d (S ++ l) := by
  rcases h with h | ⟨k, q, h, e⟩ | ⟨k, q, h, e⟩ | h
  · exact .inl h
  · exact .inr (.inl ⟨k, q, h, by rw [List.getElem?_append_left (List.getElem?_eq_some_iff.mp e).1]; exact e⟩)
  · exact .inr (.inr (.inl ⟨k, q, h, by rw [List.getElem?_append_left (List.getElem?_eq_some_iff.mp e).1]; exact e⟩))
  · exact .inr (.inr (.inr h))
def isW : D → Bool
  | .int i => decide (-1000000000 ≤ i) && decide (i ≤ 1000000000)
  | _ => false
theorem is_worth_spec {d : D} {S : Sto} (h : Th d S) : m_is_worth [d] S = .ok (.bl (isW d)) S := by
  rcases h with h | ⟨k, l, rfl, e⟩ | ⟨k, l, rfl, e⟩ | ⟨l, rfl, h⟩
  · cases d <;> simp [flatD] at h <;> simp [m_is_worth, b_is_worth, runB_eq, isW, c_MOST]
    rename_i i
    by_cases q : -1000000000 ≤ i <;> simp [q]
  all_goals simp [m_is_worth, b_is_worth, runB_eq, isW, c_MOST, *]
def formI (k v : Str) : Int :=
  if k = "register" then (if v = "write" then 1 else if v = "read" then 0 else -1)
  else if k = "counter" then (if v = "add" then 1 else if v = "read" then 0 else -1)
  else if k = "queue" then (if v = "put" then 1 else if v = "take" then 0 else -1)
  else if k = "set" then (if v = "put" then 1 else if v = "cut" then 1 else if v = "has" then 1 else -1)
  else if k = "cell" then (if v = "read" then 0 else if v = "write" then 1 else if v = "swap" then 2 else -1)
  else -1
theorem app_iff {p v k : Str} : p ++ v = k ↔ k.cps.toList.take p.length = p.cps.toList ∧ v = (⟨(k.cps.toList.drop p.length).toArray⟩ : Str) := by
  have hl : p.length = p.cps.toList.length := by simp [Str.length]
  constructor
  · rintro rfl
    have : (p ++ v).cps.toList = p.cps.toList ++ v.cps.toList := by rw [PySem.Str.cps_append]; simp
    rw [this, hl, List.take_left, List.drop_left]
    exact ⟨rfl, by cases v; rfl⟩
  · rintro ⟨h1, h2⟩
    apply PySem.Str.ext'
    rw [PySem.Str.cps_append, h2]
    apply Array.ext'
    rw [Array.toList_append]
    simp only []
    rw [← h1, List.take_append_drop]
def preT (p : Str) (tb : List (Str × D)) : List (Str × D) := tb.filterMap fun e => if e.1.cps.toList.take p.length = p.cps.toList then some ((⟨(e.1.cps.toList.drop p.length).toArray⟩ : Str), e.2) else none
theorem lookup_pre {p v : Str} : ∀ {tb : List (Str × D)}, tb.lookup (p ++ v) = (preT p tb).lookup v
  | [] => rfl
  | (k, d) :: r => by
    have ih := lookup_pre (p := p) (v := v) (tb := r)
    unfold preT at ih ⊢
    rw [List.lookup_cons, List.filterMap_cons]
    by_cases h1 : k.cps.toList.take p.length = p.cps.toList
    · simp only [h1, if_true]
      rw [List.lookup_cons]
      by_cases h2 : p ++ v = k
      · have := (app_iff.mp h2).2
        rw [beq_iff_eq.mpr h2, beq_iff_eq.mpr this]
      · have h3 : ¬ v = (⟨(k.cps.toList.drop p.length).toArray⟩ : Str) := fun e => h2 (app_iff.mpr ⟨h1, e⟩)
        rw [beq_eq_false_iff_ne.mpr h2, beq_eq_false_iff_ne.mpr h3]
        exact ih
    · simp only [h1, if_false]
      rw [beq_eq_false_iff_ne.mpr (fun e => h1 (app_iff.mp e).1)]
      exact ih
def isT2 : D → Bool
  | .tup [a, b] => isW a && isW b
  | _ => false
def fOf (i : Int) (d : D) : Bool := if i = 0 then isNon d else if i = 1 then isW d else if i = 2 then isT2 d else false
theorem flat_Th {d : D} {S : Sto} (h : flatD d = true) : Th d S := .inl h
theorem formed0 {d : D} {S : Sto} : m_is_formed [.str "none", d] S = .ok (.bl (isNon d)) S := by
  simp [m_is_formed, b_is_formed, runB_eq]
theorem formed1 {d : D} {S : Sto} (h : Th d S) : m_is_formed [.str "one", d] S = .ok (.bl (isW d)) S := by
  simp [m_is_formed, b_is_formed, runB_eq, is_worth_spec h]
theorem formed2 {d : D} {S : Sto} (h : Th d S) : m_is_formed [.str "two", d] S = .ok (.bl (isT2 d)) S := by
  rcases h with h | ⟨k, l, rfl, e⟩ | ⟨k, l, rfl, e⟩ | ⟨l, rfl, h⟩
  · cases d <;> simp [flatD] at h <;> simp [m_is_formed, b_is_formed, runB_eq, isT2]
  · simp [m_is_formed, b_is_formed, runB_eq, isT2, e]
  · simp [m_is_formed, b_is_formed, runB_eq, isT2, e]
  · match l, h with
    | [], h => simp [m_is_formed, b_is_formed, runB_eq, isT2]
    | [a], h => simp [m_is_formed, b_is_formed, runB_eq, isT2]
    | [a, b], h =>
      simp at h
      have q1 := fun S => is_worth_spec (flat_Th (S := S) h.1)
      have q2 := fun S => is_worth_spec (flat_Th (S := S) h.2)
      by_cases z : isW a <;> simp [m_is_formed, b_is_formed, runB_eq, isT2, q1, q2, z]
    | a :: b :: c :: r, h =>
      have : ¬ ((r.length : Int) + 1 + 1 + 1 = 2) := by omega
      simp [m_is_formed, b_is_formed, runB_eq, isT2, this]
def dOf (k v d : D) : Bool := match k, v with
  | .str a, .str b => fOf (formI a b) d
  | _, _ => false
theorem deed_str {k v : Str} {d : D} {S : Sto} (h : Th d S) (hk : k.length ≤ 1000) (hv : v.length ≤ 1000) : m_is_deed [.str k, .str v, d] S = .ok (.bl (fOf (formI k v) d)) S := by
  have a1 : ∀ S, gAdd (.str k) (.str " ") S = .ok (.str (k ++ " ")) S := fun S => gAdd_str_ok (by rw [show (Str.ofString " ").length = 1 from rfl]; omega)
  have a2 : ∀ S, gAdd (.str (k ++ " ")) (.str v) S = .ok (.str (k ++ " " ++ v)) S := fun S => gAdd_str_ok (by rw [PySem.Str.length_append, show (Str.ofString " ").length = 1 from rfl]; omega)
  have f0 := fun S => formed0 (d := d) (S := S)
  have f1 := formed1 h
  have f2 := formed2 h
  unfold formI
  by_cases h0 : k = "register"
  · subst h0
    have lk : t_FORMS.lookup ("register" ++ " " ++ v) = ([("write", .str "one"), ("read", .str "none")] : List (Str × D)).lookup v := by
      rw [lookup_pre]; congr 1
    by_cases p : v = "write"
    · subst p; simp [m_is_deed, b_is_deed, runB_eq, a1, a2, f0, f1, f2, c_KINDS, lk, fOf, List.lookup]
    by_cases q : v = "read"
    · subst q; simp [m_is_deed, b_is_deed, runB_eq, a1, a2, f0, f1, f2, c_KINDS, lk, fOf, List.lookup]
    simp [m_is_deed, b_is_deed, runB_eq, a1, a2, f0, f1, f2, c_KINDS, lk, fOf, List.lookup, p, q, beq_eq_false_iff_ne.mpr p, beq_eq_false_iff_ne.mpr q]
  by_cases h1 : k = "counter"
  · subst h1
    have lk : t_FORMS.lookup ("counter" ++ " " ++ v) = ([("add", .str "one"), ("read", .str "none")] : List (Str × D)).lookup v := by
      rw [lookup_pre]; congr 1
    by_cases p : v = "add"
    · subst p; simp [m_is_deed, b_is_deed, runB_eq, a1, a2, f0, f1, f2, c_KINDS, lk, fOf, List.lookup]
    by_cases q : v = "read"
    · subst q; simp [m_is_deed, b_is_deed, runB_eq, a1, a2, f0, f1, f2, c_KINDS, lk, fOf, List.lookup]
    simp [m_is_deed, b_is_deed, runB_eq, a1, a2, f0, f1, f2, c_KINDS, lk, fOf, List.lookup, p, q, beq_eq_false_iff_ne.mpr p, beq_eq_false_iff_ne.mpr q]
  by_cases h2 : k = "queue"
  · subst h2
    have lk : t_FORMS.lookup ("queue" ++ " " ++ v) = ([("put", .str "one"), ("take", .str "none")] : List (Str × D)).lookup v := by
      rw [lookup_pre]; congr 1
    by_cases p : v = "put"
    · subst p; simp [m_is_deed, b_is_deed, runB_eq, a1, a2, f0, f1, f2, c_KINDS, lk, fOf, List.lookup]
    by_cases q : v = "take"
    · subst q; simp [m_is_deed, b_is_deed, runB_eq, a1, a2, f0, f1, f2, c_KINDS, lk, fOf, List.lookup]
    simp [m_is_deed, b_is_deed, runB_eq, a1, a2, f0, f1, f2, c_KINDS, lk, fOf, List.lookup, p, q, beq_eq_false_iff_ne.mpr p, beq_eq_false_iff_ne.mpr q]
  by_cases h3 : k = "set"
  · subst h3
    have lk : t_FORMS.lookup ("set" ++ " " ++ v) = ([("put", .str "one"), ("cut", .str "one"), ("has", .str "one")] : List (Str × D)).lookup v := by
      rw [lookup_pre]; congr 1
    by_cases p : v = "put"
    · subst p; simp [m_is_deed, b_is_deed, runB_eq, a1, a2, f0, f1, f2, c_KINDS, lk, fOf, List.lookup]
    by_cases q : v = "cut"
    · subst q; simp [m_is_deed, b_is_deed, runB_eq, a1, a2, f0, f1, f2, c_KINDS, lk, fOf, List.lookup]
    by_cases r : v = "has"
    · subst r; simp [m_is_deed, b_is_deed, runB_eq, a1, a2, f0, f1, f2, c_KINDS, lk, fOf, List.lookup]
    simp [m_is_deed, b_is_deed, runB_eq, a1, a2, f0, f1, f2, c_KINDS, lk, fOf, List.lookup, p, q, r, beq_eq_false_iff_ne.mpr p, beq_eq_false_iff_ne.mpr q, beq_eq_false_iff_ne.mpr r]
  by_cases h4 : k = "cell"
  · subst h4
    have lk : t_FORMS.lookup ("cell" ++ " " ++ v) = ([("read", .str "none"), ("write", .str "one"), ("swap", .str "two")] : List (Str × D)).lookup v := by
      rw [lookup_pre]; congr 1
    by_cases p : v = "read"
    · subst p; simp [m_is_deed, b_is_deed, runB_eq, a1, a2, f0, f1, f2, c_KINDS, lk, fOf, List.lookup]
    by_cases q : v = "write"
    · subst q; simp [m_is_deed, b_is_deed, runB_eq, a1, a2, f0, f1, f2, c_KINDS, lk, fOf, List.lookup]
    by_cases r : v = "swap"
    · subst r; simp [m_is_deed, b_is_deed, runB_eq, a1, a2, f0, f1, f2, c_KINDS, lk, fOf, List.lookup]
    simp [m_is_deed, b_is_deed, runB_eq, a1, a2, f0, f1, f2, c_KINDS, lk, fOf, List.lookup, p, q, r, beq_eq_false_iff_ne.mpr p, beq_eq_false_iff_ne.mpr q, beq_eq_false_iff_ne.mpr r]
  simp [m_is_deed, b_is_deed, runB_eq, a1, a2, c_KINDS, fOf, h0, h1, h2, h3, h4, Ne.symm h0, Ne.symm h1, Ne.symm h2, Ne.symm h3, Ne.symm h4]
theorem deed_no1 {k v d : D} {S : Sto} (h : gIsi "str" k S = .ok (.bl false) S) : m_is_deed [k, v, d] S = .ok (.bl false) S := by
  simp [m_is_deed, b_is_deed, runB_eq, h]
theorem deed_no2 {v d : D} {k : Str} {S : Sto} (h : gIsi "str" v S = .ok (.bl false) S) : m_is_deed [.str k, v, d] S = .ok (.bl false) S := by
  simp [m_is_deed, b_is_deed, runB_eq, h]

def okS : Nat → D → Bool
  | 0, _ => false
  | _ + 1, .int _ => true
  | _ + 1, .str _ => true
  | k + 1, .tup ds => ds.all (okS k)
  | _ + 1, _ => false
theorem zip_self {ds : List D} {d : D} (h : d ∈ zipD ds ds) : ∃ x ∈ ds, d = .tup [x, x] := by
  unfold zipD at h
  obtain ⟨p, hp, rfl⟩ := List.mem_map.mp h
  obtain ⟨i, hi⟩ := List.mem_iff_getElem?.mp hp
  obtain ⟨h1, h2⟩ := List.getElem?_zip_eq_some.mp hi
  rw [h1] at h2
  have e : p.1 = p.2 := Option.some.inj h2
  exact ⟨p.1, List.mem_of_getElem? h1, by rw [← e]⟩
theorem same_self : ∀ {k : Nat} {d : D} {S : Sto}, okS k d = true → m_law_same k [d, d] S = .ok (.bl true) S
  | 0, _, _, h => by cases h
  | k + 1, .non, _, h => by cases h
  | k + 1, .bl _, _, h => by cases h
  | k + 1, .scr _, _, h => by cases h
  | k + 1, .ref _, _, h => by cases h
  | k + 1, .int i, S, _ => by simp [m_law_same, b_law_same, runB_eq]
  | k + 1, .str i, S, _ => by simp [m_law_same, b_law_same, runB_eq]
  | k + 1, .tup ds, S, h => by
    have key := forL_inv (f := l_law_same_0 (m_law_same k)) (gd := []) (t := sTup 2 (sCons (sName 2) (sCons (sName 3) sNil))) (items := zipD ds ds)
      (env := [some (.tup ds), some (.tup ds), none, none]) (S := S) (fun _ e S' => S' = S ∧ ∃ x2 x3, e = [some (.tup ds), some (.tup ds), x2, x3]) (fun _ _ _ _ => grd_none)
      (fun i d e S' hd hp => by
        obtain ⟨rfl, x2, x3, rfl⟩ := hp
        obtain ⟨x, hx, rfl⟩ := zip_self (List.mem_of_getElem? hd)
        have r := same_self (S := S') (List.all_eq_true.mp h x hx)
        refine ⟨[some (.tup ds), some (.tup ds), some x, some x], S', [some (.tup ds), some (.tup ds), some x, some x], S', by simp, .inl (by simp [l_law_same_0, r]), rfl, _, _, rfl⟩)
      ⟨rfl, _, _, rfl⟩
    obtain ⟨e, S', hf, rfl, x2, x3, rfl⟩ := key
    simp [m_law_same, b_law_same, runB_eq, dFor_eq, hf]

def isBW (i : Int) : Prop := -1000000000 ≤ i ∧ i ≤ 1000000000
theorem isW_int {i : Int} (h : isBW i) : isW (.int i) = true := by unfold isBW at h; simp [isW, h.1, h.2]
theorem deed_ok {k v : Str} {d : D} {S : Sto} (h : Th d S) (hk : k.length ≤ 1000) (hv : v.length ≤ 1000) (hf : fOf (formI k v) d = true) : m_is_deed [.str k, .str v, d] S = .ok (.bl true) S := by rw [deed_str h hk hv, hf]
theorem gEq_int_int {i j : Int} {S : Sto} : gEq (.int i) (.int j) S = .ok (.bl (decide (i = j))) S := rfl
theorem th_pair {i j : Int} {S : Sto} : Th (.tup [.int i, .int j]) S := .inr (.inr (.inr ⟨_, rfl, rfl⟩))
theorem do_reg_read {st : D} {S : Sto} : m_do [.str "register", st, .str "read", .non] S = .ok (.tup [st, st]) S := by
  have e := fun S => deed_ok (k := "register") (v := "read") (d := .non) (S := S) (.inl rfl) (by decide) (by decide) (by decide +kernel)
  simp [m_do, b_do, runB_eq, e, newT_ok]
theorem do_reg_write {st : D} {i : Int} {S : Sto} (h : isBW i) : m_do [.str "register", st, .str "write", .int i] S = .ok (.tup [.int i, .str "ok"]) S := by
  have e := fun S => deed_ok (k := "register") (v := "write") (d := .int i) (S := S) (.inl rfl) (by decide) (by decide) (by rw [show formI "register" "write" = 1 by decide +kernel]; simp [fOf, isW_int h])
  simp [m_do, b_do, runB_eq, e, newT_ok]
theorem do_cou_read {st : D} {S : Sto} : m_do [.str "counter", st, .str "read", .non] S = .ok (.tup [st, st]) S := by
  have e := fun S => deed_ok (k := "counter") (v := "read") (d := .non) (S := S) (.inl rfl) (by decide) (by decide) (by decide +kernel)
  simp [m_do, b_do, runB_eq, e, newT_ok]
theorem do_cou_add {s i : Int} {S : Sto} (h : isBW i) : m_do [.str "counter", .int s, .str "add", .int i] S = .ok (.tup [.int (s + i), .int s]) S := by
  have e := fun S => deed_ok (k := "counter") (v := "add") (d := .int i) (S := S) (.inl rfl) (by decide) (by decide) (by rw [show formI "counter" "add" = 1 by decide +kernel]; simp [fOf, isW_int h])
  simp [m_do, b_do, runB_eq, e, newT_ok]
theorem do_cell_read {st : D} {S : Sto} : m_do [.str "cell", st, .str "read", .non] S = .ok (.tup [st, st]) S := by
  have e := fun S => deed_ok (k := "cell") (v := "read") (d := .non) (S := S) (.inl rfl) (by decide) (by decide) (by decide +kernel)
  simp [m_do, b_do, runB_eq, e, newT_ok]
theorem do_cell_write {st : D} {i : Int} {S : Sto} (h : isBW i) : m_do [.str "cell", st, .str "write", .int i] S = .ok (.tup [.int i, .str "ok"]) S := by
  have e := fun S => deed_ok (k := "cell") (v := "write") (d := .int i) (S := S) (.inl rfl) (by decide) (by decide) (by rw [show formI "cell" "write" = 1 by decide +kernel]; simp [fOf, isW_int h])
  simp [m_do, b_do, runB_eq, e, newT_ok]
theorem do_cell_swap {s i j : Int} {S : Sto} (h : isBW i) (h' : isBW j) : m_do [.str "cell", .int s, .str "swap", .tup [.int i, .int j]] S = .ok (if s = i then .tup [.int j, .int 1] else .tup [.int s, .int 0]) S := by
  have e := fun S => deed_ok (k := "cell") (v := "swap") (d := .tup [.int i, .int j]) (S := S) th_pair (by decide) (by decide) (by rw [show formI "cell" "swap" = 2 by decide +kernel]; simp [fOf, isT2, isW_int h, isW_int h'])
  by_cases q : s = i <;> simp [m_do, b_do, runB_eq, e, newT_ok, q]

/-! queues -/
def qD (ws : List Int) : D := .tup (ws.map D.int)
theorem q_pl (ws : List Int) : plN 24 (qD ws) = true := by
  show (ws.map D.int).all (plN 23) = true
  rw [List.all_map, List.all_eq_true]
  exact fun _ _ => rfl
theorem q_ok (ws : List Int) (k : Nat) : okS (k + 2) (qD ws) = true := by
  show (ws.map D.int).all (okS (k + 1)) = true
  rw [List.all_map, List.all_eq_true]
  exact fun _ _ => rfl
theorem do_put {ws : List Int} {i : Int} {S : Sto} (h : isBW i) (hl : ws.length ≤ 1000) : m_do [.str "queue", qD ws, .str "put", .int i] S = .ok (.tup [qD (ws ++ [i]), .str "ok"]) S := by
  have e := fun S => deed_ok (k := "queue") (v := "put") (d := .int i) (S := S) (.inl rfl) (by decide) (by decide) (by rw [show formI "queue" "put" = 1 by decide +kernel]; simp [fOf, isW_int h])
  have a := fun S => gAdd_tup_ok (S := S) (a := ws.map D.int) (b := [.int i]) (by simp; omega)
  have m : (ws ++ [i]).map D.int = ws.map D.int ++ [.int i] := by simp
  unfold qD
  rw [m]
  generalize ws.map D.int = W at *
  simp [m_do, b_do, runB_eq, e, newT_ok, m_do_in_queue, b_do_in_queue, a]
theorem do_take0 {S : Sto} : m_do [.str "queue", qD [], .str "take", .non] S = .ok (.tup [qD [], .str "none"]) S := by
  have e := fun S => deed_ok (k := "queue") (v := "take") (d := .non) (S := S) (.inl rfl) (by decide) (by decide) (by decide +kernel)
  have g := fun S => gEq_plain (S := S) (x := .tup []) (y := .tup []) rfl rfl
  simp [m_do, b_do, runB_eq, e, newT_ok, m_do_in_queue, b_do_in_queue, qD, g]
theorem cut1 {d : D} {W : List D} : RL.cutD (d :: W) (some 1) none = W := by
  unfold RL.cutD HT.sIx
  simp
theorem do_take {a : Int} {ws : List Int} {S : Sto} : m_do [.str "queue", qD (a :: ws), .str "take", .non] S = .ok (.tup [qD ws, .int a]) S := by
  have e := fun S => deed_ok (k := "queue") (v := "take") (d := .non) (S := S) (.inl rfl) (by decide) (by decide) (by decide +kernel)
  have g := fun S => gEq_plain (S := S) (x := qD (a :: ws)) (y := .tup []) (q_pl _) rfl
  unfold qD at *
  rw [List.map_cons] at *
  have c := cut1 (d := .int a) (W := ws.map D.int)
  generalize ws.map D.int = W at *
  simp [m_do, b_do, runB_eq, e, newT_ok, m_do_in_queue, b_do_in_queue, g, c]
def Lin (S : Sto) (b : Nat) (i : Nat) : Prop := ∃ ws : List Int, S[b]? = some (.lst (ws.map D.int)) ∧ ws.length ≤ i
theorem qD_map (ws : List Int) : D.tup (ws.map D.int) = qD ws := rfl
/-- a line's last round -/
theorem line_out {ns : List Int} {w : Int} {b : Nat} {ws : List Int} {S : Sto} {x3 x4 x6 x7 x8 x9 x10 : Option D} (hb : S[b]? = some (.lst (ws.map D.int))) (hl : ws.length ≤ 1000) :
    ∃ x6' x7' x10', l_law_2 [some (.scr (ns.map D.int)), some (.int w), some (.ref 2), x3, x4, some (.ref b), x6, x7, x8, x9, x10] S = .nx [some (.scr (ns.map D.int)), some (.int w), some (.ref 2), x3, x4, some (.ref b), x6', x7', x8, x9, x10'] S := by
  obtain ⟨e', S', lp, q1, x7', x10', q2⟩ := forL_inv (f := l_law_1) (gd := [(b, .lst (ws.map D.int))]) (t := sName 7) (items := ws.map D.int) (env := [some (.scr (ns.map D.int)), some (.int w), some (.ref 2), x3, x4, some (.ref b), some (qD ws), x7, x8, x9, x10]) (S := S)
    (fun i e S' => S' = S ∧ ∃ x7' x10', e = [some (.scr (ns.map D.int)), some (.int w), some (.ref 2), x3, x4, some (.ref b), some (qD (ws.drop i)), x7', x8, x9, x10'])
    (fun i e S' hp => by rw [hp.1]; exact grd_some hb)
    (fun i d e S' hd hp => by
      obtain ⟨rfl, x7', x10', rfl⟩ := hp
      rw [List.getElem?_map] at hd
      obtain ⟨a, ha, rfl⟩ := Option.map_eq_some_iff.mp hd
      obtain ⟨h1, h2⟩ := List.getElem?_eq_some_iff.mp ha
      have dr : ws.drop i = a :: ws.drop (i + 1) := by rw [List.drop_eq_getElem_cons h1, h2]
      have t := do_take (a := a) (ws := ws.drop (i + 1)) (S := S')
      rw [← dr] at t
      have sm := fun S => same_self (k := 8) (d := .int a) (S := S) rfl
      refine ⟨_, S', [some (.scr (ns.map D.int)), some (.int w), some (.ref 2), x3, x4, some (.ref b), some (qD (ws.drop (i + 1))), some (.int a), x8, x9, some (.int a)], S', rfl, .inl ?_, rfl, _, _, rfl⟩
      generalize qD (ws.drop i) = Q1 at *
      generalize qD (ws.drop (i + 1)) = Q2 at *
      simp [l_law_1, t, sm])
    ⟨rfl, x7, x10, by rw [List.drop_zero]⟩
  subst q1
  rw [q2, List.length_map, List.drop_length] at lp
  have tu := gTuple_lst hb
  have t0 := fun S => do_take0 (S := S)
  have sm := fun S => same_self (k := 8) (d := .tup [qD [], .str "none"]) (S := S) rfl
  refine ⟨some (qD []), x7', x10', ?_⟩
  rw [qD_map] at tu
  have hb' := hb
  generalize ws.map D.int = W at *
  generalize qD ws = Q at *
  simp only [show qD [] = D.tup [] from rfl] at *
  simp [l_law_2, tu, dFor_eq, hb', lp, t0, sm, newT_ok]
theorem put_turn {ns : List Int} {w z i : Int} {b n : Nat} {ws : List Int} {S S1 S2 S3 S4 : Sto} {t u : Int} {x4 x5 x6 x7 x8 x9 x10 : Option D} (e1 : m_law_stream [.int (z / 2), .int w] S = .ok (.ref n) S1) (e2 : m_law_take [.ref n, .int 2] S1 = .ok (.int t) S2)
    (h2 : S2[2]? = some (.lst [.ref 0, .ref 1])) (hb : L2.atI [D.ref 0, .ref 1] t = some (.ref b)) (h3 : S2[b]? = some (.lst (ws.map D.int))) (e3 : m_law_take [.ref n, .int 5] S2 = .ok (.int u) S3) (hu : u < 3)
    (e4 : m_law_worth [.ref n] S3 = .ok (.int i) S4) (hi : isBW i) (h5 : S4[b]? = some (.lst (ws.map D.int))) (hl : ws.length ≤ 100) :
    l_law_0 [some (.scr (ns.map D.int)), some (.int w), some (.ref 2), some (.int z), x4, x5, x6, x7, x8, x9, x10] S = .nx [some (.scr (ns.map D.int)), some (.int w), some (.ref 2), some (.int z), some (.ref n), some (.ref b), some (qD ws), some (.int i), some (.tup [qD (ws ++ [i]), .str "ok"]), some (.tup [qD (ws ++ [i]), .str "ok"]), x10] (S4.set b (.lst ((ws ++ [i]).map D.int))) := by
  have tu := gTuple_lst h3
  have d := fun S => do_put (S := S) hi (show ws.length ≤ 1000 by omega)
  have ap := gAppend_ok (y := .int i) h5 (by simp; omega)
  have m : ws.map D.int ++ [D.int i] = (ws ++ [i]).map D.int := by simp
  rw [m] at ap
  have lt := (List.getElem?_eq_some_iff.mp h5).1
  have h6 : (S4.set b (.lst ((ws ++ [i]).map D.int)))[b]? = some (.lst ((ws ++ [i]).map D.int)) := List.getElem?_set_self lt
  have tu2 := gTuple_lst h6
  have sm := fun S => same_self (k := 8) (d := .tup [qD (ws ++ [i]), .str "ok"]) (S := S) (by
    show (okS 7 (qD (ws ++ [i])) && (okS 7 (.str "ok") && true)) = true
    rw [q_ok _ 5]; rfl)
  rw [qD_map] at tu tu2
  generalize (S4.set b (.lst ((ws ++ [i]).map D.int))) = S5 at *
  generalize qD (ws ++ [i]) = Q2 at *
  generalize qD ws = Q1 at *
  generalize (ws ++ [i]).map D.int = W2 at *
  generalize ws.map D.int = W1 at *
  simp [l_law_0, e1, e2, h2, hb, tu, e3, hu, e4, d, h5, ap, tu2, newT_ok, sm, gDiv_int (show (0:Int) < 2 by omega) (by decide)]
def ansD : List Int → D
  | [] => .str "none"
  | a :: _ => .int a
theorem take_turn {ns : List Int} {w z : Int} {b n : Nat} {ws : List Int} {S S1 S2 S3 : Sto} {t u : Int} {x4 x5 x6 x7 x8 x9 x10 : Option D} (e1 : m_law_stream [.int (z / 2), .int w] S = .ok (.ref n) S1) (e2 : m_law_take [.ref n, .int 2] S1 = .ok (.int t) S2)
    (h2 : S2[2]? = some (.lst [.ref 0, .ref 1])) (hb : L2.atI [D.ref 0, .ref 1] t = some (.ref b)) (h3 : S2[b]? = some (.lst (ws.map D.int))) (e3 : m_law_take [.ref n, .int 5] S2 = .ok (.int u) S3) (hu : ¬ u < 3)
    (h5 : S3[b]? = some (.lst (ws.map D.int))) (hl : ws.length ≤ 100) :
    l_law_0 [some (.scr (ns.map D.int)), some (.int w), some (.ref 2), some (.int z), x4, x5, x6, x7, x8, x9, x10] S = .nx [some (.scr (ns.map D.int)), some (.int w), some (.ref 2), some (.int z), some (.ref n), some (.ref b), some (qD ws), x7, some (.tup [qD (ws.drop 1), ansD ws]), some (.tup [qD (ws.drop 1), ansD ws]), some (ansD ws)] ((S3 ++ [O.lst [.str "none"], .lst (ws.map D.int ++ [.str "none"]), .lst []]).set b (.lst ((ws.drop 1).map D.int))) := by
  have tu := gTuple_lst h3
  have d : ∀ S, m_do [.str "queue", qD ws, .str "take", .non] S = .ok (.tup [qD (ws.drop 1), ansD ws]) S := fun S => by
    cases ws with
    | nil => exact do_take0
    | cons a l => exact do_take
  have lt := (List.getElem?_eq_some_iff.mp h5).1
  have f1 : ∀ l : List O, (S3 ++ l)[b]? = some (.lst (ws.map D.int)) := fun l => by rw [List.getElem?_append_left lt]; exact h5
  have f2 : (S3 ++ [O.lst [.str "none"]])[S3.length]? = some (.lst [.str "none"]) := by simp
  have ad : gAdd (.ref b) (.ref S3.length) (S3 ++ [O.lst [.str "none"]]) = .ok (.ref (S3.length + 1)) (S3 ++ [O.lst [.str "none"], .lst (ws.map D.int ++ [.str "none"])]) := by
    rw [gAdd_ref, f1, f2]
    unfold addO
    dsimp only
    rw [if_pos (by simp [lim]; omega)]
    simp
  have f3 : (S3 ++ [O.lst [.str "none"], .lst (ws.map D.int ++ [.str "none"])])[S3.length + 1]? = some (.lst (ws.map D.int ++ [.str "none"])) := by
    rw [List.getElem?_append_right (by omega)]; simp
  have a0 : L2.atI (ws.map D.int ++ [.str "none"]) 0 = some (ansD ws) := by
    rw [atI_0]
    cases ws <;> rfl
  have nl : newL [] (S3 ++ [O.lst [.str "none"], .lst (ws.map D.int ++ [.str "none"])]) = .ok (.ref (S3.length + 2)) (S3 ++ [O.lst [.str "none"], .lst (ws.map D.int ++ [.str "none"]), .lst []]) := by
    rw [newL_ok (by simp)]; simp
  have f4 := f1 [O.lst [.str "none"], .lst (ws.map D.int ++ [.str "none"]), .lst []]
  have f5 : (S3 ++ [O.lst [.str "none"], .lst (ws.map D.int ++ [.str "none"]), .lst []])[S3.length + 2]? = some (.lst []) := by
    rw [List.getElem?_append_right (by omega)]; simp
  have su : setU 1 (.ref b) (.ref (S3.length + 2)) (S3 ++ [O.lst [.str "none"], .lst (ws.map D.int ++ [.str "none"]), .lst []]) = .ok () ((S3 ++ [O.lst [.str "none"], .lst (ws.map D.int ++ [.str "none"]), .lst []]).set b (.lst ((ws.drop 1).map D.int))) := by
    unfold setU
    dsimp only
    rw [f4, f5]
    dsimp only
    rw [if_pos ⟨by omega, by simp [lim]; omega⟩, List.nil_append, List.map_drop]
  have lt4 : b < (S3 ++ [O.lst [.str "none"], .lst (ws.map D.int ++ [.str "none"]), .lst []]).length := by simp; omega
  have h6 : ((S3 ++ [O.lst [.str "none"], .lst (ws.map D.int ++ [.str "none"]), .lst []]).set b (.lst ((ws.drop 1).map D.int)))[b]? = some (.lst ((ws.drop 1).map D.int)) := List.getElem?_set_self lt4
  have tu2 := gTuple_lst h6
  have sm := fun S => same_self (k := 8) (d := .tup [qD (ws.drop 1), ansD ws]) (S := S) (by
    show (okS 7 (qD (ws.drop 1)) && (okS 7 (ansD ws) && true)) = true
    rw [q_ok _ 5]; cases ws <;> rfl)
  rw [qD_map] at tu tu2
  have nn := newL_ok (S := S3) (ds := [.str "none"]) (by simp)
  generalize ((S3 ++ [O.lst [.str "none"], .lst (ws.map D.int ++ [.str "none"]), .lst []]).set b (.lst ((ws.drop 1).map D.int))) = S7 at *
  generalize (S3 ++ [O.lst [.str "none"], .lst (ws.map D.int ++ [.str "none"]), .lst []]) = S6 at *
  generalize (S3 ++ [O.lst [.str "none"], .lst (ws.map D.int ++ [.str "none"])]) = S5 at *
  generalize (S3 ++ [O.lst [.str "none"]]) = S4 at *
  generalize qD (ws.drop 1) = Q2 at *
  generalize qD ws = Q1 at *
  generalize ansD ws = AN at *
  generalize (ws.drop 1).map D.int = W2 at *
  generalize ws.map D.int ++ [.str "none"] = W3 at *
  generalize ws.map D.int = W1 at *
  simp [l_law_0, e1, e2, h2, hb, tu, e3, hu, d, nn, ad, -gAdd_ref, f3, a0, nl, sUpto, noEx, asFl, su, tu2, newT_ok, sm, gDiv_int (show (0:Int) < 2 by omega) (by decide)]

theorem law_true (ns : List Int) (h : ns.length ≤ 63) : ∃ S', m_law [.scr (ns.map D.int)] [] = .ok (.bl true) S' := by
  obtain ⟨c0, hc⟩ := cell_at0 (ns := ns) (S := [])
  have hLm : ∀ d ∈ RL.cutD (ns.map D.int) none (some 63), isInt d := by
    intro d hd
    obtain ⟨i, _, rfl⟩ := List.mem_map.mp (cutD_mem hd)
    exact ⟨i, rfl⟩
  have hL1 : (RL.cutD (ns.map D.int) none (some 63)).length ≤ 63 := by
    unfold RL.cutD; simp only [List.length_take, List.length_drop, List.length_map]; omega
  generalize hC : RL.cutD (ns.map D.int) none (some 63) = C at hLm hL1
  let P : Nat → RL.Env → Sto → Prop := fun i e S => (∃ x3 x4 x5 x6 x7 x8 x9 x10, e = [some (.scr (ns.map D.int)), some (.int (c0 % 2)), some (.ref 2), x3, x4, x5, x6, x7, x8, x9, x10]) ∧ S[3]? = some (.lst C) ∧ S[2]? = some (.lst [.ref 0, .ref 1]) ∧ Lin S 0 i ∧ Lin S 1 i
  obtain ⟨e, S', hf, ⟨x3, x4, x5, x6, x7, x8, x9, x10, rfl⟩, hS, h2, ⟨ws0, l0, m0⟩, ⟨ws1, l1, m1⟩⟩ := forL_inv (f := l_law_0) (gd := [(3, .lst C)]) (t := sName 3) (items := C) (env := [some (.scr (ns.map D.int)), some (.int (c0 % 2)), some (.ref 2), none, none, none, none, none, none, none, none]) (S := [.lst [], .lst [], .lst [.ref 0, .ref 1], .lst C]) P
    (fun i e S hp => grd_some hp.2.1)
    (fun i d e S hd hp => by
      obtain ⟨⟨x3, x4, x5, x6, x7, x8, x9, x10, rfl⟩, hS, h2, B0, B1⟩ := hp
      have hi : i < 63 := Nat.lt_of_lt_of_le (List.getElem?_eq_some_iff.mp hd).1 hL1
      obtain ⟨z, rfl⟩ := hLm d (List.mem_of_getElem? hd)
      have hn : 3 < S.length := (List.getElem?_eq_some_iff.mp hS).1
      obtain ⟨S1, e1, R1, K1⟩ := stream_spec (S := S) (c := z / 2) (w := c0 % 2)
      obtain ⟨t, S2, e2, t0, t1, R2, K2⟩ := take_spec R1 (m := 2) (by omega) (by decide)
      have K12 := K1.trans K2
      obtain ⟨bd, hbd, hbm⟩ := atI_mem (xs := [D.ref 0, .ref 1]) t0 (by simpa using t1)
      obtain ⟨u, S3, e3, u0, u1, R3, K3⟩ := take_spec R2 (m := 5) (by omega) (by decide)
      have K13 := K12.trans K3
      have bb : ∃ b o, bd = .ref b ∧ ((b = 0 ∧ o = 1) ∨ (b = 1 ∧ o = 0)) ∧ Lin S b i ∧ Lin S o i := by
        simp at hbm
        rcases hbm with rfl | rfl
        · exact ⟨0, 1, rfl, .inl ⟨rfl, rfl⟩, B0, B1⟩
        · exact ⟨1, 0, rfl, .inr ⟨rfl, rfl⟩, B1, B0⟩
      obtain ⟨b, o, rfl, hbo, ⟨ws, hb, hl⟩, ⟨ws1, hb1, hl1⟩⟩ := bb
      have bn : b ≠ S.length ∧ o ≠ S.length ∧ b ≠ o ∧ b < 2 ∧ o < 2 := by omega
      have n2 : 2 ≠ S.length := by omega
      have n3 : 3 ≠ S.length := by omega
      -- what both ways leave
      have fin : ∀ (T : Sto) (ws' : List Int) (e2 : RL.Env), T[b]? = some (.lst (ws'.map D.int)) → ws'.length ≤ i + 1 → T[o]? = some (.lst (ws1.map D.int)) → T[2]? = some (.lst [.ref 0, .ref 1]) → T[3]? = some (.lst C) → (∃ x3 x4 x5 x6 x7 x8 x9 x10, e2 = [some (.scr (ns.map D.int)), some (.int (c0 % 2)), some (.ref 2), x3, x4, x5, x6, x7, x8, x9, x10]) → P (i + 1) e2 T := fun T ws' e2 q1 q2 q3 q4 q5 q6 => by
        have Lb : Lin T b (i + 1) := ⟨ws', q1, q2⟩
        have Lo : Lin T o (i + 1) := ⟨ws1, q3, by omega⟩
        refine ⟨q6, q5, q4, ?_⟩
        rcases hbo with ⟨rfl, rfl⟩ | ⟨rfl, rfl⟩
        · exact ⟨Lb, Lo⟩
        · exact ⟨Lo, Lb⟩
      by_cases hu : u < 3
      · obtain ⟨w, S4, e4, i0, i1, R4, K4⟩ := worth_spec R3
        have K14 := K13.trans K4
        have hb4 := K14.at hb bn.1
        refine ⟨_, S, _, _, rfl, .inl (put_turn e1 e2 (K12.at h2 n2) hbd (K12.at hb bn.1) e3 hu e4 ⟨i0, i1⟩ hb4 (by omega)), fin _ (ws ++ [w]) _ (List.getElem?_set_self (List.getElem?_eq_some_iff.mp hb4).1) (by simp; omega) ?_ ?_ ?_ ⟨_, _, _, _, _, _, _, _, rfl⟩⟩
        · rw [List.getElem?_set_ne bn.2.2.1]; exact K14.at hb1 bn.2.1
        · rw [List.getElem?_set_ne (by omega)]; exact K14.at h2 n2
        · rw [List.getElem?_set_ne (by omega)]; exact K14.at hS n3
      · have hb3 := K13.at hb bn.1
        have lt3 := (List.getElem?_eq_some_iff.mp hb3).1
        have up : ∀ {k : Nat} {x : O} {l : List O}, S3[k]? = some x → (S3 ++ l)[k]? = some x := fun {k x l} q => by rw [List.getElem?_append_left (List.getElem?_eq_some_iff.mp q).1]; exact q
        refine ⟨_, S, _, _, rfl, .inl (take_turn e1 e2 (K12.at h2 n2) hbd (K12.at hb bn.1) e3 hu hb3 (by omega)), fin _ (ws.drop 1) _ (List.getElem?_set_self (by rw [List.length_append]; omega)) (by simp; omega) ?_ ?_ ?_ ⟨_, _, _, _, _, _, _, _, rfl⟩⟩
        · rw [List.getElem?_set_ne bn.2.2.1]; exact up (K13.at hb1 bn.2.1)
        · rw [List.getElem?_set_ne (by omega)]; exact up (K13.at h2 n2)
        · rw [List.getElem?_set_ne (by omega)]; exact up (K13.at hS n3))
    ⟨⟨_, _, _, _, _, _, _, _, rfl⟩, rfl, rfl, ⟨[], rfl, Nat.le_refl _⟩, ⟨[], rfl, Nat.le_refl _⟩⟩
  have hlen := hL1
  obtain ⟨y6, y7, y10, o1⟩ := line_out (ns := ns) (w := c0 % 2) (b := 0) (x3 := x3) (x4 := x4) (x6 := x6) (x7 := x7) (x8 := x8) (x9 := x9) (x10 := x10) l0 (by omega)
  obtain ⟨z6, z7, z10, o2⟩ := line_out (ns := ns) (w := c0 % 2) (b := 1) (x3 := x3) (x4 := x4) (x6 := y6) (x7 := y7) (x8 := x8) (x9 := x9) (x10 := y10) l1 (by omega)
  have lp2 : forL [(2, .lst [.ref 0, .ref 1])] (sName 5) l_law_2 [.ref 0, .ref 1] [some (.scr (ns.map D.int)), some (.int (c0 % 2)), some (.ref 2), x3, x4, x5, x6, x7, x8, x9, x10] S' = .nx [some (.scr (ns.map D.int)), some (.int (c0 % 2)), some (.ref 2), x3, x4, some (.ref 1), z6, z7, x8, x9, z10] S' := by
    have g := grd_some h2
    simp [forL, g, sName, o1, o2]
  have t2 : ∀ S, m_first_state [.str "queue"] S = .ok (.tup []) S := fun S => by
    simp [m_first_state, b_first_state, runB_eq, c_KINDS, newT_ok]
  have t3 : ∀ S, m_law_same 8 [.tup [], .tup []] S = .ok (.bl true) S := fun S => same_self (by rfl)
  refine ⟨S', ?_⟩
  simp [m_law, b_law, runB_eq, hc, gMod_int (show (0:Int) < 2 by omega), hC, dFor_eq, newL_ok]
  rw [hf]
  simp [dFor_eq, h2, lp2, t2, t3, newT_ok]

end LK
namespace LK
open PySem PySem.Spec PyProof.Rows L2 RL
def topS (i : Nat) : Stmt := PySem.Challenge.pw_talejudge_k04_queues.main.body.getD i (.Pass ⟨0, 0, 0, 0⟩)
structure Txt (K : Fg) (w : World) (mg : Mg) : Prop where
  bool : mg "bool" = none
  int : mg "int" = none
  isinstance : mg "isinstance" = none
  len : mg "len" = none
  sorted : mg "sorted" = none
  str : mg "str" = none
  tuple : mg "tuple" = none
  zip : mg "zip" = none
  u_KINDS : ∃ u, mg "KINDS" = some u ∧ RepK K u c_KINDS
  u_MOST : ∃ u, mg "MOST" = some u ∧ RepK K u c_MOST
  d_FORMS : KD K w mg "FORMS" t_FORMS
  e_NoDeed : ∃ C, mg "NoDeed" = some (.ref C) ∧ ExcF K C
section
variable {P : Program} {w : World} {K : Fg} {mg : Mg} {base : Heap}
theorem Txt.g_KINDS (T : Txt K w mg) : mg "KINDS" = some T.u_KINDS.choose := T.u_KINDS.choose_spec.1
theorem Txt.r_KINDS (T : Txt K w mg) : RepK K T.u_KINDS.choose c_KINDS := T.u_KINDS.choose_spec.2
theorem Txt.g_MOST (T : Txt K w mg) : mg "MOST" = some T.u_MOST.choose := T.u_MOST.choose_spec.1
theorem Txt.r_MOST (T : Txt K w mg) : RepK K T.u_MOST.choose c_MOST := T.u_MOST.choose_spec.2
theorem Txt.g_NoDeed (T : Txt K w mg) : mg "NoDeed" = some (.ref T.e_NoDeed.choose) := T.e_NoDeed.choose_spec.1
theorem Txt.x_NoDeed (T : Txt K w mg) : ExcF K T.e_NoDeed.choose := T.e_NoDeed.choose_spec.2
abbrev s_law_cell_at : Stmt := topS 17
theorem sc_law_cell_at : FnScope ["script", "k"] ["script", "k"] (defScope s_law_cell_at) := ⟨rfl, rfl, rfl, by decide +kernel, rfl, by decide +kernel, by decide +kernel⟩
theorem ok_law_cell_at (T : Txt K w mg) (F : FunAt K mg "_law_cell_at" s_law_cell_at ["script", "k"])  : Cal P w K mg base "_law_cell_at" 1 2 m_law_cell_at :=
  cal_of (N := ["script", "k"]) F sc_law_cell_at fun f cdv A outer s H E hr =>
  (bx_cons (sx_if (tx_cmp (op_lt) okCmp (ex_v 1) (ex_callB call_lenA okLen rfl T.len (by decide +kernel) (ax_cons (ex_v 0) ax_nil)) (nomark _)) (bx_one (sx_ret (ex_ix (ix_any (u1 hr)) okIx (ex_v 0) (ex_v 1) (fun _ _ => rfl)))) bx_nil)
  (bx_one (sx_ret ex_int)))
abbrev s_law_same : Stmt := topS 21
theorem sc_law_same : FnScope ["told", "due", "one", "other"] ["told", "due"] (defScope s_law_same) := ⟨rfl, rfl, rfl, by decide +kernel, rfl, by decide +kernel, by decide +kernel⟩
theorem ok_law_same_ (T : Txt K w mg) (F : FunAt K mg "_law_same" s_law_same ["told", "due"])  : ∀ fuel, Cal P w K mg base "_law_same" (0 + fuel + 1) 2 (m_law_same fuel)
  | 0 => cal_err (N := ["told", "due", "one", "other"]) F sc_law_same
  | fuel + 1 =>
  have k_rec := ok_law_same_ T F  fuel
  cal_of (N := ["told", "due", "one", "other"]) F sc_law_same fun f cdv A outer s H E hr =>
  (bx_cons (sx_if (tx_val (ex_isi (T := "tuple") (by decide) rfl T.isinstance rfl T.tuple (by decide +kernel) (ex_v 1))) (bx_cons (sx_if (tx_w (wx_or (tx_not (tx_val (ex_isi (T := "tuple") (by decide) rfl T.isinstance rfl T.tuple (by decide +kernel) (ex_v 0)))) (wx_or1 (tx_cmp (op_neA (u64 hr)) okNe (ex_callB call_lenA okLen rfl T.len (by decide +kernel) (ax_cons (ex_v 0) ax_nil)) (ex_callB call_lenA okLen rfl T.len (by decide +kernel) (ax_cons (ex_v 1) ax_nil)) (nomark _))))) (bx_one (sx_ret ex_bl)) bx_nil)
  (bx_cons (sx_for (passes_of rfl) rfl (ix_zip rfl T.zip (ax_cons (ex_v 0) (ax_cons (ex_v 1) ax_nil))) (gx_tup rfl (gsx_cons (gx_name (i := 2) sc_law_same.nd rfl (Or.inl rfl)) (gsx_cons (gx_name (i := 3) sc_law_same.nd rfl (Or.inl rfl)) gsx_nil)))
  (bx_one (sx_if (tx_not (tx_val (cx_call k_rec hr (by omega) (takes_of rfl rfl rfl rfl) rfl (ax_cons (ex_v 2) (ax_cons (ex_v 3) ax_nil))))) (bx_one (sx_ret ex_bl)) bx_nil)))
  (bx_one (sx_ret ex_bl)))) bx_nil)
  (bx_cons (sx_if (tx_val (ex_isi (T := "str") (by decide) rfl T.isinstance rfl T.str (by decide +kernel) (ex_v 1))) (bx_one (sx_ret (ex_and (ex_isi (T := "str") (by decide) rfl T.isinstance rfl T.str (by decide +kernel) (ex_v 0)) (ex_one (ex_cmp (op_eqA (u64 hr)) okEq (ex_v 0) (ex_v 1) (nomark _)))))) bx_nil)
  (bx_one (sx_ret (ex_and (ex_isi (T := "int") (by decide) rfl T.isinstance rfl T.int (by decide +kernel) (ex_v 0)) (ex_and (ex_not (ex_isi (T := "bool") (by decide) rfl T.isinstance rfl T.bool (by decide +kernel) (ex_v 0))) (ex_one (ex_cmp (op_eqA (u64 hr)) okEq (ex_v 0) (ex_v 1) (nomark _)))))))))
theorem ok_law_same (T : Txt K w mg) (F : FunAt K mg "_law_same" s_law_same ["told", "due"])  : Cal P w K mg base "_law_same" 9 2 (m_law_same 8) := ok_law_same_ T F  8
abbrev s_law_stream : Stmt := topS 18
theorem sc_law_stream : FnScope ["cell", "way", "low"] ["cell", "way"] (defScope s_law_stream) := ⟨rfl, rfl, rfl, by decide +kernel, rfl, by decide +kernel, by decide +kernel⟩
theorem ok_law_stream (T : Txt K w mg) (F : FunAt K mg "_law_stream" s_law_stream ["cell", "way"])  : Cal P w K mg base "_law_stream" 1 2 m_law_stream :=
  cal_of (N := ["cell", "way", "low"]) F sc_law_stream fun f cdv A outer s H E hr =>
  (bx_cons (sx_set (i := 2) sc_law_stream.nd rfl (Or.inl rfl) (ex_bin op_mod okMod (ex_v 0) ex_int))
  (bx_one (sx_ret (ex_lst (ax_cons (ex_v 0) (ax_cons (ex_v 1) (ax_cons (ex_bin op_mod okMod (ex_bin op_addA okAdd (ex_bin op_mulA okMul (ex_bin op_mod okMod (ex_bin op_mulA okMul (ex_v 2) (ex_v 2)) ex_int) (ex_bin op_addA okAdd (ex_v 2) ex_int)) ex_int) ex_int) ax_nil)))))))
abbrev s_law_take : Stmt := topS 19
theorem sc_law_take : FnScope ["row", "many", "told"] ["row", "many"] (defScope s_law_take) := ⟨rfl, rfl, rfl, by decide +kernel, rfl, by decide +kernel, by decide +kernel⟩
theorem ok_law_take (T : Txt K w mg) (F : FunAt K mg "_law_take" s_law_take ["row", "many"])  : Cal P w K mg base "_law_take" 1 2 m_law_take :=
  cal_of (N := ["row", "many", "told"]) F sc_law_take fun f cdv A outer s H E hr =>
  (bx_cons (sx_if (tx_w (wx_and (tx_cmp (op_eqA (u64 hr)) okEq (ex_ix (ix_any (u1 hr)) okIx (ex_v 0) ex_int (fun _ _ => rfl)) ex_int (nomark _)) (wx_and1 (tx_cmp (op_notInA (u65 hr)) okNotIn (ex_ix (ix_any (u1 hr)) okIx (ex_v 0) ex_int (fun _ _ => rfl)) (ex_tup (ax_cons ex_int (ax_cons (ex_un un_neg okNeg ex_int) ax_nil))) (by with_unfolding_all rfl))))) (bx_cons (sx_set (i := 2) sc_law_take.nd rfl (Or.inl rfl) (ex_bin op_mod okMod (ex_ix (ix_any (u1 hr)) okIx (ex_v 0) ex_int (fun _ _ => rfl)) (ex_v 1)))
  (bx_cons (sx_asg (ex_bin op_fdivW okDiv (ex_ix (ix_any (u1 hr)) okIx (ex_v 0) ex_int (fun _ _ => rfl)) (ex_v 1)) (gx_sub (u1 hr) (ex_v 0) ex_int))
  (bx_one (sx_ret (ex_v 2))))) bx_nil)
  (bx_cons (sx_asg (ex_bin op_mod okMod (ex_bin op_mulA okMul (ex_bin op_addA okAdd (ex_ix (ix_any (u1 hr)) okIx (ex_v 0) ex_int (fun _ _ => rfl)) ex_int) (ex_bin op_addA okAdd (ex_ix (ix_any (u1 hr)) okIx (ex_v 0) ex_int (fun _ _ => rfl)) ex_int)) ex_int) (gx_sub (u1 hr) (ex_v 0) ex_int))
  (bx_one (sx_ret (ex_bin op_mod okMod (ex_bin op_addA okAdd (ex_bin op_mulA okMul (ex_ix (ix_any (u1 hr)) okIx (ex_v 0) ex_int (fun _ _ => rfl)) ex_int) ex_int) (ex_v 1))))))
abbrev s_law_worth : Stmt := topS 20
theorem sc_law_worth : FnScope ["row", "kind"] ["row"] (defScope s_law_worth) := ⟨rfl, rfl, rfl, by decide +kernel, rfl, by decide +kernel, by decide +kernel⟩
theorem ok_law_worth (T : Txt K w mg) (F : FunAt K mg "_law_worth" s_law_worth ["row"]) (k_law_take : Cal P w K mg base "_law_take" 1 2 m_law_take) : Cal P w K mg base "_law_worth" 2 1 m_law_worth :=
  cal_of (N := ["row", "kind"]) F sc_law_worth fun f cdv A outer s H E hr =>
  (bx_cons (sx_set (i := 1) sc_law_worth.nd rfl (Or.inl rfl) (cx_call k_law_take hr (by decide) (takes_of rfl rfl rfl rfl) rfl (ax_cons (ex_v 0) (ax_cons ex_int ax_nil))))
  (bx_cons (sx_if (tx_cmp (op_eqA (u64 hr)) okEq (ex_v 1) ex_int (nomark _)) (bx_one (sx_ret (ex_bin op_sub okSub (cx_call k_law_take hr (by decide) (takes_of rfl rfl rfl rfl) rfl (ax_cons (ex_v 0) (ax_cons (ex_bin op_addA okAdd (ex_bin op_mulA okMul ex_int (ex_bin op_pow okPow ex_int ex_int)) ex_int) ax_nil))) (ex_bin op_pow okPow ex_int ex_int)))) bx_nil)
  (bx_cons (sx_if (tx_cmp (op_eqA (u64 hr)) okEq (ex_v 1) ex_int (nomark _)) (bx_one (sx_ret (ex_ix (ix_any (u1 hr)) okIx (ex_lst (ax_cons (ex_bin op_pow okPow ex_int ex_int) (ax_cons (ex_un un_neg okNeg (ex_bin op_pow okPow ex_int ex_int)) (ax_cons (ex_bin op_sub okSub (ex_bin op_pow okPow ex_int ex_int) ex_int) (ax_cons (ex_bin op_sub okSub ex_int (ex_bin op_pow okPow ex_int ex_int)) ax_nil))))) (cx_call k_law_take hr (by decide) (takes_of rfl rfl rfl rfl) rfl (ax_cons (ex_v 0) (ax_cons ex_int ax_nil))) (fun _ _ => rfl)))) bx_nil)
  (bx_one (sx_ret (ex_bin op_sub okSub (cx_call k_law_take hr (by decide) (takes_of rfl rfl rfl rfl) rfl (ax_cons (ex_v 0) (ax_cons ex_int ax_nil))) ex_int))))))
abbrev s_do_in_queue : Stmt := topS 14
theorem sc_do_in_queue : FnScope ["state", "verb", "worth"] ["state", "verb", "worth"] (defScope s_do_in_queue) := ⟨rfl, rfl, rfl, by decide +kernel, rfl, by decide +kernel, by decide +kernel⟩
theorem ok_do_in_queue (T : Txt K w mg) (F : FunAt K mg "do_in_queue" s_do_in_queue ["state", "verb", "worth"])  : Cal P w K mg base "do_in_queue" 1 3 m_do_in_queue :=
  cal_of (N := ["state", "verb", "worth"]) F sc_do_in_queue fun f cdv A outer s H E hr =>
  (bx_cons (sx_if (tx_cmp (op_eqA (u64 hr)) okEq (ex_v 1) ex_str (nomark _)) (bx_one (sx_ret (ex_tup (ax_cons (ex_bin op_addA okAdd (ex_v 0) (ex_tup (ax_cons (ex_v 2) ax_nil))) (ax_cons ex_str ax_nil))))) bx_nil)
  (bx_cons (sx_if (tx_cmp (op_eqA (u64 hr)) okEq (ex_v 0) (ex_tup ax_nil) (nomark _)) (bx_one (sx_ret (ex_tup (ax_cons (ex_v 0) (ax_cons ex_str ax_nil))))) bx_nil)
  (bx_one (sx_ret (ex_tup (ax_cons (ex_slice sl_all okSl (ex_v 0) (ox_some ex_int) ox_none) (ax_cons (ex_ix (ix_any (u1 hr)) okIx (ex_v 0) ex_int (fun _ _ => rfl)) ax_nil)))))))
abbrev s_with_worth : Stmt := topS 11
theorem sc_with_worth : FnScope ["state", "worth"] ["state", "worth"] (defScope s_with_worth) := ⟨rfl, rfl, rfl, by decide +kernel, rfl, by decide +kernel, by decide +kernel⟩
theorem ok_with_worth (T : Txt K w mg) (F : FunAt K mg "with_worth" s_with_worth ["state", "worth"])  : Cal P w K mg base "with_worth" 1 2 m_with_worth :=
  cal_of (N := ["state", "worth"]) F sc_with_worth fun f cdv A outer s H E hr =>
  (bx_cons (sx_if (tx_cmp (op_inA (u65 hr)) okIn (ex_v 1) (ex_v 0) (by with_unfolding_all rfl)) (bx_one (sx_ret (ex_tup (ax_cons (ex_v 0) (ax_cons ex_int ax_nil))))) bx_nil)
  (bx_one (sx_ret (ex_tup (ax_cons (ex_callTy call_tuple_of okTuple rfl T.tuple (by decide +kernel) (ax_cons (ex_callB (call_sortedX rfl (u64 hr)) okSorted rfl T.sorted (by decide +kernel) (ax_cons (ex_bin op_addA okAdd (ex_v 0) (ex_tup (ax_cons (ex_v 1) ax_nil))) ax_nil)) ax_nil)) (ax_cons ex_int ax_nil))))))
abbrev s_without_worth : Stmt := topS 12
theorem sc_without_worth : FnScope ["state", "worth", "one"] ["state", "worth"] (defScope s_without_worth) := ⟨rfl, rfl, rfl, by decide +kernel, rfl, by decide +kernel, by decide +kernel⟩
theorem ok_without_worth (T : Txt K w mg) (F : FunAt K mg "without_worth" s_without_worth ["state", "worth"])  : Cal P w K mg base "without_worth" 1 2 m_without_worth :=
  cal_of (N := ["state", "worth", "one"]) F sc_without_worth fun f cdv A outer s H E hr =>
  (bx_cons (sx_if (tx_cmp (op_notInA (u65 hr)) okNotIn (ex_v 1) (ex_v 0) (by with_unfolding_all rfl)) (bx_one (sx_ret (ex_tup (ax_cons (ex_v 0) (ax_cons ex_int ax_nil))))) bx_nil)
  (bx_one (sx_ret (ex_tup (ax_cons (ex_callTy call_tuple_of okTuple rfl T.tuple (by decide +kernel) (ax_cons (ex_lc (own := [("one", 2)]) (c := (Sum.inl 2)) rfl sc_without_worth.nd (it_any (ex_v 0)) (blkOk_at (N1 := ["state", "worth", "one"]) (sc1 := defScope s_without_worth) rfl rfl (by decide +kernel)) (fun _ _ _ _ _ => (pg_name (i := 2) sc_without_worth.nd rfl (Or.inl rfl))) (fun _ _ _ _ _ => (txs_one (tx_cmp (op_neA (u64 hr)) okNe (ex_v 2) (ex_v 1) (nomark _)))) (fun _ _ _ _ _ => (ex_v 2))) ax_nil)) (ax_cons ex_int ax_nil))))))
abbrev s_do_in_set : Stmt := topS 13
theorem sc_do_in_set : FnScope ["state", "verb", "worth"] ["state", "verb", "worth"] (defScope s_do_in_set) := ⟨rfl, rfl, rfl, by decide +kernel, rfl, by decide +kernel, by decide +kernel⟩
theorem ok_do_in_set (T : Txt K w mg) (F : FunAt K mg "do_in_set" s_do_in_set ["state", "verb", "worth"]) (k_with_worth : Cal P w K mg base "with_worth" 1 2 m_with_worth) (k_without_worth : Cal P w K mg base "without_worth" 1 2 m_without_worth) : Cal P w K mg base "do_in_set" 2 3 m_do_in_set :=
  cal_of (N := ["state", "verb", "worth"]) F sc_do_in_set fun f cdv A outer s H E hr =>
  (bx_cons (sx_if (tx_cmp (op_eqA (u64 hr)) okEq (ex_v 1) ex_str (nomark _)) (bx_one (sx_ret (cx_call k_with_worth hr (by decide) (takes_of rfl rfl rfl rfl) rfl (ax_cons (ex_v 0) (ax_cons (ex_v 2) ax_nil))))) bx_nil)
  (bx_cons (sx_if (tx_cmp (op_eqA (u64 hr)) okEq (ex_v 1) ex_str (nomark _)) (bx_one (sx_ret (cx_call k_without_worth hr (by decide) (takes_of rfl rfl rfl rfl) rfl (ax_cons (ex_v 0) (ax_cons (ex_v 2) ax_nil))))) bx_nil)
  (bx_one (sx_ret (ex_tup (ax_cons (ex_v 0) (ax_cons (ex_callTy call_intA okInt rfl T.int (by decide +kernel) (ax_cons (ex_cmp (op_inA (u65 hr)) okIn (ex_v 2) (ex_v 0) (by with_unfolding_all rfl)) ax_nil)) ax_nil)))))))
abbrev s_is_worth : Stmt := topS 7
theorem sc_is_worth : FnScope ["thing"] ["thing"] (defScope s_is_worth) := ⟨rfl, rfl, rfl, by decide +kernel, rfl, by decide +kernel, by decide +kernel⟩
theorem ok_is_worth (T : Txt K w mg) (F : FunAt K mg "is_worth" s_is_worth ["thing"])  : Cal P w K mg base "is_worth" 1 1 m_is_worth :=
  cal_of (N := ["thing"]) F sc_is_worth fun f cdv A outer s H E hr =>
  (bx_one (sx_ret (ex_and (ex_isi (T := "int") (by decide) rfl T.isinstance rfl T.int (by decide +kernel) (ex_v 0)) (ex_and (ex_not (ex_isi (T := "bool") (by decide) rfl T.isinstance rfl T.bool (by decide +kernel) (ex_v 0))) (ex_one (ex_chain (op_le) okCmp (op_le) okCmp (ex_bin op_sub okSub ex_int (ex_g rfl T.g_MOST T.r_MOST)) (ex_v 0) (ex_g rfl T.g_MOST T.r_MOST)))))))
abbrev s_is_formed : Stmt := topS 8
theorem sc_is_formed : FnScope ["form", "worth"] ["form", "worth"] (defScope s_is_formed) := ⟨rfl, rfl, rfl, by decide +kernel, rfl, by decide +kernel, by decide +kernel⟩
theorem ok_is_formed (T : Txt K w mg) (F : FunAt K mg "is_formed" s_is_formed ["form", "worth"]) (k_is_worth : Cal P w K mg base "is_worth" 1 1 m_is_worth) : Cal P w K mg base "is_formed" 2 2 m_is_formed :=
  cal_of (N := ["form", "worth"]) F sc_is_formed fun f cdv A outer s H E hr =>
  (bx_cons (sx_if (tx_cmp (op_eqA (u64 hr)) okEq (ex_v 0) ex_str (nomark _)) (bx_one (sx_ret (ex_cmp (op_isN) okIsN (ex_v 1) ex_non (nomark _)))) bx_nil)
  (bx_cons (sx_if (tx_cmp (op_eqA (u64 hr)) okEq (ex_v 0) ex_str (nomark _)) (bx_one (sx_ret (cx_call k_is_worth hr (by decide) (takes_of rfl rfl rfl rfl) rfl (ax_cons (ex_v 1) ax_nil)))) bx_nil)
  (bx_one (sx_ret (ex_and (ex_isi (T := "tuple") (by decide) rfl T.isinstance rfl T.tuple (by decide +kernel) (ex_v 1)) (ex_and (ex_cmp (op_eqA (u64 hr)) okEq (ex_callB call_lenA okLen rfl T.len (by decide +kernel) (ax_cons (ex_v 1) ax_nil)) ex_int (nomark _)) (ex_and (cx_call k_is_worth hr (by decide) (takes_of rfl rfl rfl rfl) rfl (ax_cons (ex_ix (ix_any (u1 hr)) okIx (ex_v 1) ex_int (fun _ _ => rfl)) ax_nil)) (ex_one (cx_call k_is_worth hr (by decide) (takes_of rfl rfl rfl rfl) rfl (ax_cons (ex_ix (ix_any (u1 hr)) okIx (ex_v 1) ex_int (fun _ _ => rfl)) ax_nil))))))))))
abbrev s_is_deed : Stmt := topS 9
theorem sc_is_deed : FnScope ["kind", "verb", "worth", "words"] ["kind", "verb", "worth"] (defScope s_is_deed) := ⟨rfl, rfl, rfl, by decide +kernel, rfl, by decide +kernel, by decide +kernel⟩
theorem ok_is_deed (T : Txt K w mg) (F : FunAt K mg "is_deed" s_is_deed ["kind", "verb", "worth"]) (k_is_formed : Cal P w K mg base "is_formed" 2 2 m_is_formed) : Cal P w K mg base "is_deed" 3 3 m_is_deed :=
  cal_of (N := ["kind", "verb", "worth", "words"]) F sc_is_deed fun f cdv A outer s H E hr =>
  (bx_cons (sx_if (tx_w (wx_or (tx_not (tx_val (ex_isi (T := "str") (by decide) rfl T.isinstance rfl T.str (by decide +kernel) (ex_v 0)))) (wx_or1 (tx_not (tx_val (ex_isi (T := "str") (by decide) rfl T.isinstance rfl T.str (by decide +kernel) (ex_v 1))))))) (bx_one (sx_ret ex_bl)) bx_nil)
  (bx_cons (sx_set (i := 3) sc_is_deed.nd rfl (Or.inl rfl) (ex_bin op_addA okAdd (ex_bin op_addA okAdd (ex_v 0) ex_str) (ex_v 1)))
  (bx_one (sx_ret (ex_and (ex_cmp (op_inA (u65 hr)) okIn (ex_v 0) (ex_g rfl T.g_KINDS T.r_KINDS) (by with_unfolding_all rfl)) (ex_and (ex_inK T.d_FORMS rfl (ex_v 3)) (ex_one (cx_call k_is_formed hr (by decide) (takes_of rfl rfl rfl rfl) rfl (ax_cons (ex_ixK T.d_FORMS rfl (ex_v 3) (fun _ _ => rfl)) (ax_cons (ex_v 2) ax_nil))))))))))
abbrev s_do : Stmt := topS 15
theorem sc_do : FnScope ["kind", "state", "verb", "worth"] ["kind", "state", "verb", "worth"] (defScope s_do) := ⟨rfl, rfl, rfl, by decide +kernel, rfl, by decide +kernel, by decide +kernel⟩
theorem ok_do (T : Txt K w mg) (F : FunAt K mg "do" s_do ["kind", "state", "verb", "worth"]) (k_do_in_queue : Cal P w K mg base "do_in_queue" 1 3 m_do_in_queue) (k_do_in_set : Cal P w K mg base "do_in_set" 2 3 m_do_in_set) (k_is_deed : Cal P w K mg base "is_deed" 3 3 m_is_deed) : Cal P w K mg base "do" 4 4 m_do :=
  cal_of (N := ["kind", "state", "verb", "worth"]) F sc_do fun f cdv A outer s H E hr =>
  (bx_cons (sx_if (tx_not (tx_val (cx_call k_is_deed hr (by decide) (takes_of rfl rfl rfl rfl) rfl (ax_cons (ex_v 0) (ax_cons (ex_v 2) (ax_cons (ex_v 3) ax_nil)))))) (bx_one (sx_raise rfl (takes_of rfl rfl rfl rfl) T.x_NoDeed T.g_NoDeed rfl)) bx_nil)
  (bx_cons (sx_if (tx_cmp (op_eqA (u64 hr)) okEq (ex_v 0) ex_str (nomark _)) (bx_one (sx_ret (cx_call k_do_in_set hr (by decide) (takes_of rfl rfl rfl rfl) rfl (ax_cons (ex_v 1) (ax_cons (ex_v 2) (ax_cons (ex_v 3) ax_nil)))))) bx_nil)
  (bx_cons (sx_if (tx_cmp (op_eqA (u64 hr)) okEq (ex_v 0) ex_str (nomark _)) (bx_one (sx_ret (cx_call k_do_in_queue hr (by decide) (takes_of rfl rfl rfl rfl) rfl (ax_cons (ex_v 1) (ax_cons (ex_v 2) (ax_cons (ex_v 3) ax_nil)))))) bx_nil)
  (bx_cons (sx_if (tx_cmp (op_eqA (u64 hr)) okEq (ex_v 2) ex_str (nomark _)) (bx_one (sx_ret (ex_tup (ax_cons (ex_v 1) (ax_cons (ex_v 1) ax_nil))))) bx_nil)
  (bx_cons (sx_if (tx_cmp (op_eqA (u64 hr)) okEq (ex_v 2) ex_str (nomark _)) (bx_one (sx_ret (ex_tup (ax_cons (ex_v 3) (ax_cons ex_str ax_nil))))) bx_nil)
  (bx_cons (sx_if (tx_cmp (op_eqA (u64 hr)) okEq (ex_v 2) ex_str (nomark _)) (bx_one (sx_ret (ex_tup (ax_cons (ex_bin op_addA okAdd (ex_v 1) (ex_v 3)) (ax_cons (ex_v 1) ax_nil))))) bx_nil)
  (bx_cons (sx_if (tx_cmp (op_eqA (u64 hr)) okEq (ex_v 1) (ex_ix (ix_any (u1 hr)) okIx (ex_v 3) ex_int (fun _ _ => rfl)) (nomark _)) (bx_one (sx_ret (ex_tup (ax_cons (ex_ix (ix_any (u1 hr)) okIx (ex_v 3) ex_int (fun _ _ => rfl)) (ax_cons ex_int ax_nil))))) bx_nil)
  (bx_one (sx_ret (ex_tup (ax_cons (ex_v 1) (ax_cons ex_int ax_nil))))))))))))
abbrev s_first_state : Stmt := topS 10
theorem sc_first_state : FnScope ["kind"] ["kind"] (defScope s_first_state) := ⟨rfl, rfl, rfl, by decide +kernel, rfl, by decide +kernel, by decide +kernel⟩
theorem ok_first_state (T : Txt K w mg) (F : FunAt K mg "first_state" s_first_state ["kind"])  : Cal P w K mg base "first_state" 1 1 m_first_state :=
  cal_of (N := ["kind"]) F sc_first_state fun f cdv A outer s H E hr =>
  (bx_cons (sx_if (tx_w (wx_or (tx_not (tx_val (ex_isi (T := "str") (by decide) rfl T.isinstance rfl T.str (by decide +kernel) (ex_v 0)))) (wx_or1 (tx_cmp (op_notInA (u65 hr)) okNotIn (ex_v 0) (ex_g rfl T.g_KINDS T.r_KINDS) (by with_unfolding_all rfl))))) (bx_one (sx_raise rfl (takes_of rfl rfl rfl rfl) T.x_NoDeed T.g_NoDeed rfl)) bx_nil)
  (bx_cons (sx_if (tx_cmp (op_inA (u65 hr)) okIn (ex_v 0) (ex_tup (ax_cons ex_str (ax_cons ex_str ax_nil))) (by with_unfolding_all rfl)) (bx_one (sx_ret (ex_tup ax_nil))) bx_nil)
  (bx_one (sx_ret ex_int))))
abbrev s_law : Stmt := topS 22
theorem sc_law : FnScope ["script", "way", "lines", "cell", "row", "line", "state", "worth", "told", "due", "answer"] ["script"] (defScope s_law) := ⟨rfl, rfl, rfl, by decide +kernel, rfl, by decide +kernel, by decide +kernel⟩
theorem fn_law {f : Addr} {fd : FuncData} (T : Txt K w mg) (F : Fun K "law" "law" s_law f fd) (k_law_cell_at : Cal P w K mg base "_law_cell_at" 1 2 m_law_cell_at) (k_law_same : Cal P w K mg base "_law_same" 9 2 (m_law_same 8)) (k_law_stream : Cal P w K mg base "_law_stream" 1 2 m_law_stream) (k_law_take : Cal P w K mg base "_law_take" 1 2 m_law_take) (k_law_worth : Cal P w K mg base "_law_worth" 2 1 m_law_worth) (k_do : Cal P w K mg base "do" 4 4 m_do) (k_first_state : Cal P w K mg base "first_state" 1 1 m_first_state) : FnOk P w K mg base (L2.CX P w) 10 f fd ["script"] (spM K mg 1 m_law) :=
  def_ok (N := ["script", "way", "lines", "cell", "row", "line", "state", "worth", "told", "due", "answer"]) F sc_law fun cdv A outer s H E hr =>
  (bx_cons (sx_set (i := 1) sc_law.nd rfl (Or.inl rfl) (ex_bin op_mod okMod (cx_call k_law_cell_at hr (by decide) (takes_of rfl rfl rfl rfl) rfl (ax_cons (ex_v 0) (ax_cons ex_int ax_nil))) ex_int))
  (bx_cons (sx_set (i := 2) sc_law.nd rfl (Or.inl rfl) (ex_lst (ax_cons (ex_lst ax_nil) (ax_cons (ex_lst ax_nil) ax_nil))))
  (bx_cons (sx_for (passes_of rfl) rfl (it_any (ex_slice sl_all okSl (ex_v 0) ox_none (ox_some ex_int))) (gx_name (i := 3) sc_law.nd rfl (Or.inl rfl))
  (bx_cons (sx_set (i := 4) sc_law.nd rfl (Or.inl rfl) (cx_call k_law_stream hr (by decide) (takes_of rfl rfl rfl rfl) rfl (ax_cons (ex_bin op_fdivW okDiv (ex_v 3) ex_int) (ax_cons (ex_v 1) ax_nil))))
  (bx_cons (sx_set (i := 5) sc_law.nd rfl (Or.inl rfl) (ex_ix (ix_any (u1 hr)) okIx (ex_v 2) (cx_call k_law_take hr (by decide) (takes_of rfl rfl rfl rfl) rfl (ax_cons (ex_v 4) (ax_cons ex_int ax_nil))) (fun _ _ => rfl)))
  (bx_cons (sx_set (i := 6) sc_law.nd rfl (Or.inl rfl) (ex_callTy call_tuple_of okTuple rfl T.tuple (by decide +kernel) (ax_cons (ex_v 5) ax_nil)))
  (bx_cons (sx_if (tx_cmp (op_lt) okCmp (cx_call k_law_take hr (by decide) (takes_of rfl rfl rfl rfl) rfl (ax_cons (ex_v 4) (ax_cons ex_int ax_nil))) ex_int (nomark _)) (bx_cons (sx_set (i := 7) sc_law.nd rfl (Or.inl rfl) (cx_call k_law_worth hr (by decide) (takes_of rfl rfl rfl rfl) rfl (ax_cons (ex_v 4) ax_nil)))
  (bx_cons (sx_set (i := 8) sc_law.nd rfl (Or.inl rfl) (cx_call k_do hr (by decide) (takes_of rfl rfl rfl rfl) rfl (ax_cons ex_str (ax_cons (ex_v 6) (ax_cons ex_str (ax_cons (ex_v 7) ax_nil))))))
  (bx_cons (sx_expr (ex_bm PySem.F.plainAttrs_list PySem.F.slot_list_append PySem.F.type_list_append mt_append okAppend (ex_v 5) (ax_cons (ex_v 7) ax_nil)))
  (bx_one (sx_set (i := 9) sc_law.nd rfl (Or.inl rfl) (ex_tup (ax_cons (ex_callTy call_tuple_of okTuple rfl T.tuple (by decide +kernel) (ax_cons (ex_v 5) ax_nil)) (ax_cons ex_str ax_nil)))))))) (bx_cons (sx_set (i := 8) sc_law.nd rfl (Or.inl rfl) (cx_call k_do hr (by decide) (takes_of rfl rfl rfl rfl) rfl (ax_cons ex_str (ax_cons (ex_v 6) (ax_cons ex_str (ax_cons ex_non ax_nil))))))
  (bx_cons (sx_set (i := 10) sc_law.nd rfl (Or.inl rfl) (ex_ix (ix_any (u1 hr)) okIx (ex_bin op_addA okAdd (ex_v 5) (ex_lst (ax_cons ex_str ax_nil))) ex_int (fun _ _ => rfl)))
  (bx_cons (sx_asg (ex_lst ax_nil) (gx_upto (k := 1) (ex_v 5)))
  (bx_one (sx_set (i := 9) sc_law.nd rfl (Or.inl rfl) (ex_tup (ax_cons (ex_callTy call_tuple_of okTuple rfl T.tuple (by decide +kernel) (ax_cons (ex_v 5) ax_nil)) (ax_cons (ex_v 10) ax_nil)))))))))
  (bx_one (sx_if (tx_not (tx_val (cx_call k_law_same hr (by decide) (takes_of rfl rfl rfl rfl) rfl (ax_cons (ex_v 8) (ax_cons (ex_v 9) ax_nil))))) (bx_one (sx_ret ex_bl)) bx_nil)))))))
  (bx_cons (sx_for (passes_of rfl) rfl (it_any (ex_v 2)) (gx_name (i := 5) sc_law.nd rfl (Or.inl rfl))
  (bx_cons (sx_set (i := 6) sc_law.nd rfl (Or.inl rfl) (ex_callTy call_tuple_of okTuple rfl T.tuple (by decide +kernel) (ax_cons (ex_v 5) ax_nil)))
  (bx_cons (sx_for (passes_of rfl) rfl (it_any (ex_v 5)) (gx_name (i := 7) sc_law.nd rfl (Or.inl rfl))
  (bx_cons (sx_asg (cx_call k_do hr (by decide) (takes_of rfl rfl rfl rfl) rfl (ax_cons ex_str (ax_cons (ex_v 6) (ax_cons ex_str (ax_cons ex_non ax_nil))))) (gx_tup rfl (gsx_cons (gx_name (i := 6) sc_law.nd rfl (Or.inl rfl)) (gsx_cons (gx_name (i := 10) sc_law.nd rfl (Or.inl rfl)) gsx_nil))))
  (bx_one (sx_if (tx_not (tx_val (cx_call k_law_same hr (by decide) (takes_of rfl rfl rfl rfl) rfl (ax_cons (ex_v 10) (ax_cons (ex_v 7) ax_nil))))) (bx_one (sx_ret ex_bl)) bx_nil))))
  (bx_one (sx_if (tx_not (tx_val (cx_call k_law_same hr (by decide) (takes_of rfl rfl rfl rfl) rfl (ax_cons (cx_call k_do hr (by decide) (takes_of rfl rfl rfl rfl) rfl (ax_cons ex_str (ax_cons (ex_v 6) (ax_cons ex_str (ax_cons ex_non ax_nil))))) (ax_cons (ex_tup (ax_cons (ex_tup ax_nil) (ax_cons ex_str ax_nil))) ax_nil))))) (bx_one (sx_ret ex_bl)) bx_nil)))))
  (bx_one (sx_ret (cx_call k_law_same hr (by decide) (takes_of rfl rfl rfl rfl) rfl (ax_cons (cx_call k_first_state hr (by decide) (takes_of rfl rfl rfl rfl) rfl (ax_cons ex_str ax_nil)) (ax_cons (ex_tup ax_nil) ax_nil)))))))))
end
theorem all_mk {l : PySem.W.OpenLaw} {w : World} {K : Fg} {h : Heap} {mg : Mg} {fa : Addr} (X : K.In h) (G : h.Ns mainGlobals mg) (hfa : mg "law" = some (.ref fa))
        {f0 : Addr} {od0 an0 : Option Addr} {sl0 : Array (Option Value)} {oc0 kV0 dc0 pm0 cd0 ct0 : Value}
    {f1 : Addr} {od1 an1 : Option Addr} {sl1 : Array (Option Value)} {oc1 kV1 dc1 pm1 cd1 ct1 : Value}
    {f2 : Addr} {od2 an2 : Option Addr} {sl2 : Array (Option Value)} {oc2 kV2 dc2 pm2 cd2 ct2 : Value}
    {f3 : Addr} {od3 an3 : Option Addr} {sl3 : Array (Option Value)} {oc3 kV3 dc3 pm3 cd3 ct3 : Value}
    {f4 : Addr} {od4 an4 : Option Addr} {sl4 : Array (Option Value)} {oc4 kV4 dc4 pm4 cd4 ct4 : Value}
    {f5 : Addr} {od5 an5 : Option Addr} {sl5 : Array (Option Value)} {oc5 kV5 dc5 pm5 cd5 ct5 : Value}
    {f6 : Addr} {od6 an6 : Option Addr} {sl6 : Array (Option Value)} {oc6 kV6 dc6 pm6 cd6 ct6 : Value}
    {f7 : Addr} {od7 an7 : Option Addr} {sl7 : Array (Option Value)} {oc7 kV7 dc7 pm7 cd7 ct7 : Value}
    {f8 : Addr} {od8 an8 : Option Addr} {sl8 : Array (Option Value)} {oc8 kV8 dc8 pm8 cd8 ct8 : Value}
    {f9 : Addr} {od9 an9 : Option Addr} {sl9 : Array (Option Value)} {oc9 kV9 dc9 pm9 cd9 ct9 : Value}
    {f10 : Addr} {od10 an10 : Option Addr} {sl10 : Array (Option Value)} {oc10 kV10 dc10 pm10 cd10 ct10 : Value}
    {f11 : Addr} {od11 an11 : Option Addr} {sl11 : Array (Option Value)} {oc11 kV11 dc11 pm11 cd11 ct11 : Value}
    {f12 : Addr} {od12 an12 : Option Addr} {sl12 : Array (Option Value)} {oc12 kV12 dc12 pm12 cd12 ct12 : Value}
    {f13 : Addr} {od13 an13 : Option Addr} {sl13 : Array (Option Value)} {oc13 kV13 dc13 pm13 cd13 ct13 : Value}
    {f14 : Addr} {od14 an14 : Option Addr} {sl14 : Array (Option Value)} {oc14 kV14 dc14 pm14 cd14 ct14 : Value}
    {A_KINDS : Addr} {dd_KINDS : Option Addr} {n_KINDS : Nat} {sl_KINDS : Array (Option Value)} {t0_KINDS t1_KINDS t2_KINDS t3_KINDS t4_KINDS : Tok}
    {t_MOST : Tok}
    {A_FORMS : Addr} {n_FORMS : Nat} {k0_FORMS v0_FORMS k1_FORMS v1_FORMS k2_FORMS v2_FORMS k3_FORMS v3_FORMS k4_FORMS v4_FORMS k5_FORMS v5_FORMS k6_FORMS v6_FORMS k7_FORMS v7_FORMS k8_FORMS v8_FORMS k9_FORMS v9_FORMS k10_FORMS v10_FORMS k11_FORMS v11_FORMS : Tok}
    {C_NoDeed : Addr}
        (a0 : PySem.W.nsIn K mainGlobals "_law_cell_at" = some (some (.ref f0)))
    (l0 : K.lookup f0 = some ⟨oc0, od0, .func (PySem.W.fnOf "_law_cell_at" "_law_cell_at" (defArgs s_law_cell_at) (defBody s_law_cell_at) (defScope s_law_cell_at) .none kV0 dc0 pm0 an0 cd0 ct0), sl0⟩)
    (c0 : PySem.W.codeIn K cd0 "_law_cell_at" = true)
    (k0 : PySem.W.keepIn K (.ref f0) = true)
    (a1 : PySem.W.nsIn K mainGlobals "_law_same" = some (some (.ref f1)))
    (l1 : K.lookup f1 = some ⟨oc1, od1, .func (PySem.W.fnOf "_law_same" "_law_same" (defArgs s_law_same) (defBody s_law_same) (defScope s_law_same) .none kV1 dc1 pm1 an1 cd1 ct1), sl1⟩)
    (c1 : PySem.W.codeIn K cd1 "_law_same" = true)
    (k1 : PySem.W.keepIn K (.ref f1) = true)
    (a2 : PySem.W.nsIn K mainGlobals "_law_stream" = some (some (.ref f2)))
    (l2 : K.lookup f2 = some ⟨oc2, od2, .func (PySem.W.fnOf "_law_stream" "_law_stream" (defArgs s_law_stream) (defBody s_law_stream) (defScope s_law_stream) .none kV2 dc2 pm2 an2 cd2 ct2), sl2⟩)
    (c2 : PySem.W.codeIn K cd2 "_law_stream" = true)
    (k2 : PySem.W.keepIn K (.ref f2) = true)
    (a3 : PySem.W.nsIn K mainGlobals "_law_take" = some (some (.ref f3)))
    (l3 : K.lookup f3 = some ⟨oc3, od3, .func (PySem.W.fnOf "_law_take" "_law_take" (defArgs s_law_take) (defBody s_law_take) (defScope s_law_take) .none kV3 dc3 pm3 an3 cd3 ct3), sl3⟩)
    (c3 : PySem.W.codeIn K cd3 "_law_take" = true)
    (k3 : PySem.W.keepIn K (.ref f3) = true)
    (a4 : PySem.W.nsIn K mainGlobals "_law_worth" = some (some (.ref f4)))
    (l4 : K.lookup f4 = some ⟨oc4, od4, .func (PySem.W.fnOf "_law_worth" "_law_worth" (defArgs s_law_worth) (defBody s_law_worth) (defScope s_law_worth) .none kV4 dc4 pm4 an4 cd4 ct4), sl4⟩)
    (c4 : PySem.W.codeIn K cd4 "_law_worth" = true)
    (k4 : PySem.W.keepIn K (.ref f4) = true)
    (a5 : PySem.W.nsIn K mainGlobals "do_in_queue" = some (some (.ref f5)))
    (l5 : K.lookup f5 = some ⟨oc5, od5, .func (PySem.W.fnOf "do_in_queue" "do_in_queue" (defArgs s_do_in_queue) (defBody s_do_in_queue) (defScope s_do_in_queue) .none kV5 dc5 pm5 an5 cd5 ct5), sl5⟩)
    (c5 : PySem.W.codeIn K cd5 "do_in_queue" = true)
    (k5 : PySem.W.keepIn K (.ref f5) = true)
    (a6 : PySem.W.nsIn K mainGlobals "with_worth" = some (some (.ref f6)))
    (l6 : K.lookup f6 = some ⟨oc6, od6, .func (PySem.W.fnOf "with_worth" "with_worth" (defArgs s_with_worth) (defBody s_with_worth) (defScope s_with_worth) .none kV6 dc6 pm6 an6 cd6 ct6), sl6⟩)
    (c6 : PySem.W.codeIn K cd6 "with_worth" = true)
    (k6 : PySem.W.keepIn K (.ref f6) = true)
    (a7 : PySem.W.nsIn K mainGlobals "without_worth" = some (some (.ref f7)))
    (l7 : K.lookup f7 = some ⟨oc7, od7, .func (PySem.W.fnOf "without_worth" "without_worth" (defArgs s_without_worth) (defBody s_without_worth) (defScope s_without_worth) .none kV7 dc7 pm7 an7 cd7 ct7), sl7⟩)
    (c7 : PySem.W.codeIn K cd7 "without_worth" = true)
    (k7 : PySem.W.keepIn K (.ref f7) = true)
    (a8 : PySem.W.nsIn K mainGlobals "do_in_set" = some (some (.ref f8)))
    (l8 : K.lookup f8 = some ⟨oc8, od8, .func (PySem.W.fnOf "do_in_set" "do_in_set" (defArgs s_do_in_set) (defBody s_do_in_set) (defScope s_do_in_set) .none kV8 dc8 pm8 an8 cd8 ct8), sl8⟩)
    (c8 : PySem.W.codeIn K cd8 "do_in_set" = true)
    (k8 : PySem.W.keepIn K (.ref f8) = true)
    (a9 : PySem.W.nsIn K mainGlobals "is_worth" = some (some (.ref f9)))
    (l9 : K.lookup f9 = some ⟨oc9, od9, .func (PySem.W.fnOf "is_worth" "is_worth" (defArgs s_is_worth) (defBody s_is_worth) (defScope s_is_worth) .none kV9 dc9 pm9 an9 cd9 ct9), sl9⟩)
    (c9 : PySem.W.codeIn K cd9 "is_worth" = true)
    (k9 : PySem.W.keepIn K (.ref f9) = true)
    (a10 : PySem.W.nsIn K mainGlobals "is_formed" = some (some (.ref f10)))
    (l10 : K.lookup f10 = some ⟨oc10, od10, .func (PySem.W.fnOf "is_formed" "is_formed" (defArgs s_is_formed) (defBody s_is_formed) (defScope s_is_formed) .none kV10 dc10 pm10 an10 cd10 ct10), sl10⟩)
    (c10 : PySem.W.codeIn K cd10 "is_formed" = true)
    (k10 : PySem.W.keepIn K (.ref f10) = true)
    (a11 : PySem.W.nsIn K mainGlobals "is_deed" = some (some (.ref f11)))
    (l11 : K.lookup f11 = some ⟨oc11, od11, .func (PySem.W.fnOf "is_deed" "is_deed" (defArgs s_is_deed) (defBody s_is_deed) (defScope s_is_deed) .none kV11 dc11 pm11 an11 cd11 ct11), sl11⟩)
    (c11 : PySem.W.codeIn K cd11 "is_deed" = true)
    (k11 : PySem.W.keepIn K (.ref f11) = true)
    (a12 : PySem.W.nsIn K mainGlobals "do" = some (some (.ref f12)))
    (l12 : K.lookup f12 = some ⟨oc12, od12, .func (PySem.W.fnOf "do" "do" (defArgs s_do) (defBody s_do) (defScope s_do) .none kV12 dc12 pm12 an12 cd12 ct12), sl12⟩)
    (c12 : PySem.W.codeIn K cd12 "do" = true)
    (k12 : PySem.W.keepIn K (.ref f12) = true)
    (a13 : PySem.W.nsIn K mainGlobals "first_state" = some (some (.ref f13)))
    (l13 : K.lookup f13 = some ⟨oc13, od13, .func (PySem.W.fnOf "first_state" "first_state" (defArgs s_first_state) (defBody s_first_state) (defScope s_first_state) .none kV13 dc13 pm13 an13 cd13 ct13), sl13⟩)
    (c13 : PySem.W.codeIn K cd13 "first_state" = true)
    (k13 : PySem.W.keepIn K (.ref f13) = true)
    (a14 : PySem.W.nsIn K mainGlobals "law" = some (some (.ref f14)))
    (l14 : K.lookup f14 = some ⟨oc14, od14, .func (PySem.W.fnOf "law" "law" (defArgs s_law) (defBody s_law) (defScope s_law) .none kV14 dc14 pm14 an14 cd14 ct14), sl14⟩)
    (c14 : PySem.W.codeIn K cd14 "law" = true)
    (k14 : PySem.W.keepIn K (.ref f14) = true)
    (z_bool : PySem.W.nsIn K mainGlobals "bool" = some none)
    (z_int : PySem.W.nsIn K mainGlobals "int" = some none)
    (z_isinstance : PySem.W.nsIn K mainGlobals "isinstance" = some none)
    (z_len : PySem.W.nsIn K mainGlobals "len" = some none)
    (z_sorted : PySem.W.nsIn K mainGlobals "sorted" = some none)
    (z_str : PySem.W.nsIn K mainGlobals "str" = some none)
    (z_tuple : PySem.W.nsIn K mainGlobals "tuple" = some none)
    (z_zip : PySem.W.nsIn K mainGlobals "zip" = some none)
    (g_KINDS : PySem.W.nsIn K mainGlobals "KINDS" = some (some (.ref A_KINDS)))
    (l_KINDS : K.lookup A_KINDS = some ⟨.type "tuple", dd_KINDS, .seq #[.str "register" t0_KINDS, .str "counter" t1_KINDS, .str "queue" t2_KINDS, .str "set" t3_KINDS, .str "cell" t4_KINDS] n_KINDS, sl_KINDS⟩)
    (g_MOST : PySem.W.nsIn K mainGlobals "MOST" = some (some (.int (1000000000) t_MOST)))
    (g_FORMS : PySem.W.nsIn K mainGlobals "FORMS" = some (some (.ref A_FORMS)))
    (l_FORMS : K.lookup A_FORMS = some ⟨.type "dict", none, .dict #[⟨PyData.keyHash w.params "register write", .str "register write" k0_FORMS, .str "one" v0_FORMS⟩, ⟨PyData.keyHash w.params "register read", .str "register read" k1_FORMS, .str "none" v1_FORMS⟩, ⟨PyData.keyHash w.params "counter add", .str "counter add" k2_FORMS, .str "one" v2_FORMS⟩, ⟨PyData.keyHash w.params "counter read", .str "counter read" k3_FORMS, .str "none" v3_FORMS⟩, ⟨PyData.keyHash w.params "queue put", .str "queue put" k4_FORMS, .str "one" v4_FORMS⟩, ⟨PyData.keyHash w.params "queue take", .str "queue take" k5_FORMS, .str "none" v5_FORMS⟩, ⟨PyData.keyHash w.params "set put", .str "set put" k6_FORMS, .str "one" v6_FORMS⟩, ⟨PyData.keyHash w.params "set cut", .str "set cut" k7_FORMS, .str "one" v7_FORMS⟩, ⟨PyData.keyHash w.params "set has", .str "set has" k8_FORMS, .str "one" v8_FORMS⟩, ⟨PyData.keyHash w.params "cell read", .str "cell read" k9_FORMS, .str "none" v9_FORMS⟩, ⟨PyData.keyHash w.params "cell write", .str "cell write" k10_FORMS, .str "one" v10_FORMS⟩, ⟨PyData.keyHash w.params "cell swap", .str "cell swap" k11_FORMS, .str "two" v11_FORMS⟩] n_FORMS, #[]⟩)
    (m_FORMS : (A_FORMS == sysModules) = false)
    (g_NoDeed : PySem.W.nsIn K mainGlobals "NoDeed" = some (some (.ref C_NoDeed)))
    (x_NoDeed : PySem.W.excIn K C_NoDeed veB "ValueError.__new__" = true)
    (y_NoDeed : PySem.W.keepIn K (.ref C_NoDeed) = true)
    (w_NoDeed : PySem.W.subIn K (.ref C_NoDeed) (.type "BaseException") = some true)
    (v_NoDeed : PySem.W.typeIn K (.ref C_NoDeed) = some (.type "type")) :
    ∃ fd : FuncData, (∀ (s : Shared) (v : Value), BindsTo s fd ⟨[v], []⟩ [("script", v)]) ∧ ∀ base : Heap, K.In base → base.Ns mainGlobals mg → FnOk l.prog w K mg base (L2.CX l.prog w) 10 fa fd ["script"] (spLaw K) := by
  have e := hfa.symm.trans (PySem.W.mg_of X G a14)
  cases e
  have T : Txt K w mg := ⟨PySem.W.mg_none_of X G z_bool, PySem.W.mg_none_of X G z_int, PySem.W.mg_none_of X G z_isinstance, PySem.W.mg_none_of X G z_len, PySem.W.mg_none_of X G z_sorted, PySem.W.mg_none_of X G z_str, PySem.W.mg_none_of X G z_tuple, PySem.W.mg_none_of X G z_zip, ⟨_, PySem.W.mg_of X G g_KINDS, repK_tup (us := [.str "register" t0_KINDS, .str "counter" t1_KINDS, .str "queue" t2_KINDS, .str "set" t3_KINDS, .str "cell" t4_KINDS]) l_KINDS (.str (.str (.str (.str (.str .nil)))))⟩, ⟨_, PySem.W.mg_of X G g_MOST, repK_int⟩, ⟨_, _, _, PySem.W.mg_of X G g_FORMS, ⟨l_FORMS, ⟨⟨_, _, rfl, rfl⟩, ⟨⟨_, _, rfl, rfl⟩, ⟨⟨_, _, rfl, rfl⟩, ⟨⟨_, _, rfl, rfl⟩, ⟨⟨_, _, rfl, rfl⟩, ⟨⟨_, _, rfl, rfl⟩, ⟨⟨_, _, rfl, rfl⟩, ⟨⟨_, _, rfl, rfl⟩, ⟨⟨_, _, rfl, rfl⟩, ⟨⟨_, _, rfl, rfl⟩, ⟨⟨_, _, rfl, rfl⟩, ⟨⟨_, _, rfl, rfl⟩, trivial⟩⟩⟩⟩⟩⟩⟩⟩⟩⟩⟩⟩, m_FORMS⟩, (.str rfl rfl (.str rfl rfl (.str rfl rfl (.str rfl rfl (.str rfl rfl (.str rfl rfl (.str rfl rfl (.str rfl rfl (.str rfl rfl (.str rfl rfl (.str rfl rfl (.str rfl rfl .nil))))))))))))⟩, ⟨_, PySem.W.mg_of X G g_NoDeed, x_NoDeed, y_NoDeed, w_NoDeed, v_NoDeed⟩⟩
  have F0 := fun_mk (st := s_law_cell_at) l0 c0 k0
  have G0 : FunAt K mg "_law_cell_at" s_law_cell_at ["script", "k"] := ⟨_, _, F0, PySem.W.mg_of X G a0, F0.binds fun _ _ _ _ _ _ us hl => match us, hl with | [_, _], _ => rfl⟩
  have F1 := fun_mk (st := s_law_same) l1 c1 k1
  have G1 : FunAt K mg "_law_same" s_law_same ["told", "due"] := ⟨_, _, F1, PySem.W.mg_of X G a1, F1.binds fun _ _ _ _ _ _ us hl => match us, hl with | [_, _], _ => rfl⟩
  have F2 := fun_mk (st := s_law_stream) l2 c2 k2
  have G2 : FunAt K mg "_law_stream" s_law_stream ["cell", "way"] := ⟨_, _, F2, PySem.W.mg_of X G a2, F2.binds fun _ _ _ _ _ _ us hl => match us, hl with | [_, _], _ => rfl⟩
  have F3 := fun_mk (st := s_law_take) l3 c3 k3
  have G3 : FunAt K mg "_law_take" s_law_take ["row", "many"] := ⟨_, _, F3, PySem.W.mg_of X G a3, F3.binds fun _ _ _ _ _ _ us hl => match us, hl with | [_, _], _ => rfl⟩
  have F4 := fun_mk (st := s_law_worth) l4 c4 k4
  have G4 : FunAt K mg "_law_worth" s_law_worth ["row"] := ⟨_, _, F4, PySem.W.mg_of X G a4, F4.binds fun _ _ _ _ _ _ us hl => match us, hl with | [_], _ => rfl⟩
  have F5 := fun_mk (st := s_do_in_queue) l5 c5 k5
  have G5 : FunAt K mg "do_in_queue" s_do_in_queue ["state", "verb", "worth"] := ⟨_, _, F5, PySem.W.mg_of X G a5, F5.binds fun _ _ _ _ _ _ us hl => match us, hl with | [_, _, _], _ => rfl⟩
  have F6 := fun_mk (st := s_with_worth) l6 c6 k6
  have G6 : FunAt K mg "with_worth" s_with_worth ["state", "worth"] := ⟨_, _, F6, PySem.W.mg_of X G a6, F6.binds fun _ _ _ _ _ _ us hl => match us, hl with | [_, _], _ => rfl⟩
  have F7 := fun_mk (st := s_without_worth) l7 c7 k7
  have G7 : FunAt K mg "without_worth" s_without_worth ["state", "worth"] := ⟨_, _, F7, PySem.W.mg_of X G a7, F7.binds fun _ _ _ _ _ _ us hl => match us, hl with | [_, _], _ => rfl⟩
  have F8 := fun_mk (st := s_do_in_set) l8 c8 k8
  have G8 : FunAt K mg "do_in_set" s_do_in_set ["state", "verb", "worth"] := ⟨_, _, F8, PySem.W.mg_of X G a8, F8.binds fun _ _ _ _ _ _ us hl => match us, hl with | [_, _, _], _ => rfl⟩
  have F9 := fun_mk (st := s_is_worth) l9 c9 k9
  have G9 : FunAt K mg "is_worth" s_is_worth ["thing"] := ⟨_, _, F9, PySem.W.mg_of X G a9, F9.binds fun _ _ _ _ _ _ us hl => match us, hl with | [_], _ => rfl⟩
  have F10 := fun_mk (st := s_is_formed) l10 c10 k10
  have G10 : FunAt K mg "is_formed" s_is_formed ["form", "worth"] := ⟨_, _, F10, PySem.W.mg_of X G a10, F10.binds fun _ _ _ _ _ _ us hl => match us, hl with | [_, _], _ => rfl⟩
  have F11 := fun_mk (st := s_is_deed) l11 c11 k11
  have G11 : FunAt K mg "is_deed" s_is_deed ["kind", "verb", "worth"] := ⟨_, _, F11, PySem.W.mg_of X G a11, F11.binds fun _ _ _ _ _ _ us hl => match us, hl with | [_, _, _], _ => rfl⟩
  have F12 := fun_mk (st := s_do) l12 c12 k12
  have G12 : FunAt K mg "do" s_do ["kind", "state", "verb", "worth"] := ⟨_, _, F12, PySem.W.mg_of X G a12, F12.binds fun _ _ _ _ _ _ us hl => match us, hl with | [_, _, _, _], _ => rfl⟩
  have F13 := fun_mk (st := s_first_state) l13 c13 k13
  have G13 : FunAt K mg "first_state" s_first_state ["kind"] := ⟨_, _, F13, PySem.W.mg_of X G a13, F13.binds fun _ _ _ _ _ _ us hl => match us, hl with | [_], _ => rfl⟩
  have F14 := fun_mk (st := s_law) l14 c14 k14
  have G14 : FunAt K mg "law" s_law ["script"] := ⟨_, _, F14, PySem.W.mg_of X G a14, F14.binds fun _ _ _ _ _ _ us hl => match us, hl with | [_], _ => rfl⟩
  have kk_law_cell_at : ∀ base, Cal l.prog w K mg base "_law_cell_at" 1 2 m_law_cell_at := fun base => ok_law_cell_at T G0 
  have kk_law_same : ∀ base, Cal l.prog w K mg base "_law_same" 9 2 (m_law_same 8) := fun base => ok_law_same T G1 
  have kk_law_stream : ∀ base, Cal l.prog w K mg base "_law_stream" 1 2 m_law_stream := fun base => ok_law_stream T G2 
  have kk_law_take : ∀ base, Cal l.prog w K mg base "_law_take" 1 2 m_law_take := fun base => ok_law_take T G3 
  have kk_law_worth : ∀ base, Cal l.prog w K mg base "_law_worth" 2 1 m_law_worth := fun base => ok_law_worth T G4 (kk_law_take base)
  have kk_do_in_queue : ∀ base, Cal l.prog w K mg base "do_in_queue" 1 3 m_do_in_queue := fun base => ok_do_in_queue T G5 
  have kk_with_worth : ∀ base, Cal l.prog w K mg base "with_worth" 1 2 m_with_worth := fun base => ok_with_worth T G6 
  have kk_without_worth : ∀ base, Cal l.prog w K mg base "without_worth" 1 2 m_without_worth := fun base => ok_without_worth T G7 
  have kk_do_in_set : ∀ base, Cal l.prog w K mg base "do_in_set" 2 3 m_do_in_set := fun base => ok_do_in_set T G8 (kk_with_worth base) (kk_without_worth base)
  have kk_is_worth : ∀ base, Cal l.prog w K mg base "is_worth" 1 1 m_is_worth := fun base => ok_is_worth T G9 
  have kk_is_formed : ∀ base, Cal l.prog w K mg base "is_formed" 2 2 m_is_formed := fun base => ok_is_formed T G10 (kk_is_worth base)
  have kk_is_deed : ∀ base, Cal l.prog w K mg base "is_deed" 3 3 m_is_deed := fun base => ok_is_deed T G11 (kk_is_formed base)
  have kk_do : ∀ base, Cal l.prog w K mg base "do" 4 4 m_do := fun base => ok_do T G12 (kk_do_in_queue base) (kk_do_in_set base) (kk_is_deed base)
  have kk_first_state : ∀ base, Cal l.prog w K mg base "first_state" 1 1 m_first_state := fun base => ok_first_state T G13 
  exact ⟨PySem.W.fnOf "law" "law" (defArgs s_law) (defBody s_law) (defScope s_law) .none kV14 dc14 pm14 an14 cd14 ct14, fun s v => .of_eq rfl, fun base _ _ =>
    law_ok (m := m_law) (fn_law T F14 (kk_law_cell_at base) (kk_law_same base) (kk_law_stream base) (kk_law_take base) (kk_law_worth base) (kk_do base) (kk_first_state base)) law_true⟩
theorem walk {l : PySem.W.OpenLaw} {q : Program} {loose : List Str} {XP : (Str → Option Value) → Heap → Prop} {YP : World → Heap → Prop} {d : DefRec} {K : Params → Fg} (hn : l.most = some 63) (hdf : d.params.defaults = [])
    (hY : ∀ (w : World) (h : Heap), YP w h → (K w.params).In h)
    (F : ∀ (w : World) (mg : Str → Option Value) (fa : Addr) (h : Heap), (K w.params).In h → h.Ns mainGlobals mg → mg d.name = some (.ref fa) →
      ∃ fd : FuncData, (∀ (s : Shared) (u : Value), BindsTo s fd ⟨[u], []⟩ [("script", u)]) ∧ ∀ base : Heap, (K w.params).In base → base.Ns mainGlobals mg → FnOk l.prog w (K w.params) mg base (L2.CX l.prog w) 10 fa fd ["script"] (spLaw (K w.params))) :
    PySem.W.WalkO q loose XP YP l.row.toRowW d [] (fun f vs => PySem.call f vs) :=
  L2.walk_of (n := 63) (k := 10) (x := "script") (CX := fun w => L2.CX l.prog w) (sp := fun w => spLaw (K w.params)) hn (by decide) hdf ⟨rfl, by decide, by decide⟩ hY F (fun _ _ a ns hl hO hS => ⟨a, ns, rfl, hS, hl, hO, fun _ => rfl⟩)
    fun _ _ _ _ _ z => by obtain ⟨_, _, _, _, _, _, _, _, _, _, _, _, z⟩ := z; exact z

end LK
open PySem PySem.W PyProof.Rows in
set_option maxRecDepth 100000 in
set_option maxHeartbeats 0 in
theorem PySem.Challenge.cw_talejudge_k04_queues_holds : PySem.Challenge.rw_talejudge_k04_queues.Holds := by
  w_on; o_law; k_head; (case hw => w_witness2)
  k_fill
  refine LK.walk (l := PySem.Challenge.rw_talejudge_k04_queues) rfl rfl (fun w h Y => PySem.W.kIn_of Y) ?F
  case F =>
    intro w mg fa h KX G hmg
    refine' LK.all_mk KX G hmg ?a0 ?l0 ?c0 ?k0 ?a1 ?l1 ?c1 ?k1 ?a2 ?l2 ?c2 ?k2 ?a3 ?l3 ?c3 ?k3 ?a4 ?l4 ?c4 ?k4 ?a5 ?l5 ?c5 ?k5 ?a6 ?l6 ?c6 ?k6 ?a7 ?l7 ?c7 ?k7 ?a8 ?l8 ?c8 ?k8 ?a9 ?l9 ?c9 ?k9 ?a10 ?l10 ?c10 ?k10 ?a11 ?l11 ?c11 ?k11 ?a12 ?l12 ?c12 ?k12 ?a13 ?l13 ?c13 ?k13 ?a14 ?l14 ?c14 ?k14 ?z_bool ?z_int ?z_isinstance ?z_len ?z_sorted ?z_str ?z_tuple ?z_zip ?g_KINDS ?l_KINDS ?g_MOST ?g_FORMS ?l_FORMS ?m_FORMS ?g_NoDeed ?x_NoDeed ?y_NoDeed ?w_NoDeed ?v_NoDeed
    (case a0 => k_is)
    (case l0 => k_is)
    (case c0 => k_is)
    (case k0 => k_is)
    (case a1 => k_is)
    (case l1 => k_is)
    (case c1 => k_is)
    (case k1 => k_is)
    (case a2 => k_is)
    (case l2 => k_is)
    (case c2 => k_is)
    (case k2 => k_is)
    (case a3 => k_is)
    (case l3 => k_is)
    (case c3 => k_is)
    (case k3 => k_is)
    (case a4 => k_is)
    (case l4 => k_is)
    (case c4 => k_is)
    (case k4 => k_is)
    (case a5 => k_is)
    (case l5 => k_is)
    (case c5 => k_is)
    (case k5 => k_is)
    (case a6 => k_is)
    (case l6 => k_is)
    (case c6 => k_is)
    (case k6 => k_is)
    (case a7 => k_is)
    (case l7 => k_is)
    (case c7 => k_is)
    (case k7 => k_is)
    (case a8 => k_is)
    (case l8 => k_is)
    (case c8 => k_is)
    (case k8 => k_is)
    (case a9 => k_is)
    (case l9 => k_is)
    (case c9 => k_is)
    (case k9 => k_is)
    (case a10 => k_is)
    (case l10 => k_is)
    (case c10 => k_is)
    (case k10 => k_is)
    (case a11 => k_is)
    (case l11 => k_is)
    (case c11 => k_is)
    (case k11 => k_is)
    (case a12 => k_is)
    (case l12 => k_is)
    (case c12 => k_is)
    (case k12 => k_is)
    (case a13 => k_is)
    (case l13 => k_is)
    (case c13 => k_is)
    (case k13 => k_is)
    (case a14 => k_is)
    (case l14 => k_is)
    (case c14 => k_is)
    (case k14 => k_is)
    (case z_bool => k_is)
    (case z_int => k_is)
    (case z_isinstance => k_is)
    (case z_len => k_is)
    (case z_sorted => k_is)
    (case z_str => k_is)
    (case z_tuple => k_is)
    (case z_zip => k_is)
    (case g_KINDS => k_is)
    (case l_KINDS => k_is)
    (case g_MOST => k_is)
    (case g_FORMS => k_is)
    (case l_FORMS => k_is)
    (case m_FORMS => decide +kernel)
    (case g_NoDeed => k_is)
    (case x_NoDeed => k_exc)
    (case y_NoDeed => k_is)
    (case w_NoDeed => k_is)
    (case v_NoDeed => k_is)

