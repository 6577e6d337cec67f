import PyProof.Rows.All
import Wide.All
import OpenK.AllK
import Wide.FinOn
import HandS.Base
import HandS.Call
import HandS.List
import HandS.Comp
import HandS.Dict
import HandS.Iter
import HandS.Text
import HandS.Exc
import HandS.TryOnly
import HandS.ExcOwn
import HandS.Ends
import HandS.Words
import HandS.ForMost
import HandS.TupAny
import HandS.Style
import HandS.Wide
import HandS.IsInst
import HandS.Deep
import HandS.More
import HandS.RaiseMore
import HandS.SetFor
import KE.SortData
import HandS.TryMany
import HandS.WordsExc
import HandS.ExcIs
import HandS.Zip
import HandS.Rev
import KE.GoesEnum
import KE.GoesMore
import HandS.SetKeys
import HandS.RevRange
import PySem.Challenge.RW_talejudge_k22_not_plain
set_option Elab.async false
set_option linter.all false
set_option maxRecDepth 100000
/-! RL: total functions over plain data, tied to the hand layer's readings. -/
namespace RL
open PySem PySem.Spec PyProof.Rows L2

/-! ### data, objects, store, results -/
inductive D where
  | non | bl (b : Bool) | int (i : Int) | str (x : Str) | tup (xs : List D) | scr (xs : List D) | ref (n : Nat)
  deriving Inhabited

mutual
def D.dec : (a b : D) → Decidable (a = b)
  | .non, .non => .isTrue rfl
  | .bl a, .bl b => if h : a = b then .isTrue (by rw [h]) else .isFalse (fun e => by cases e; exact h rfl)
  | .int a, .int b => if h : a = b then .isTrue (by rw [h]) else .isFalse (fun e => by cases e; exact h rfl)
  | .str a, .str b => if h : a = b then .isTrue (by rw [h]) else .isFalse (fun e => by cases e; exact h rfl)
  | .tup a, .tup b => match D.decL a b with
    | .isTrue h => .isTrue (by rw [h])
    | .isFalse h => .isFalse (fun e => by cases e; exact h rfl)
  | .scr a, .scr b => match D.decL a b with
    | .isTrue h => .isTrue (by rw [h])
    | .isFalse h => .isFalse (fun e => by cases e; exact h rfl)
  | .ref a, .ref b => if h : a = b then .isTrue (by rw [h]) else .isFalse (fun e => by cases e; exact h rfl)
  | .non, .bl _ | .non, .int _ | .non, .str _ | .non, .tup _ | .non, .scr _ | .non, .ref _ => .isFalse (fun e => by cases e)
  | .bl _, .non | .bl _, .int _ | .bl _, .str _ | .bl _, .tup _ | .bl _, .scr _ | .bl _, .ref _ => .isFalse (fun e => by cases e)
  | .int _, .non | .int _, .bl _ | .int _, .str _ | .int _, .tup _ | .int _, .scr _ | .int _, .ref _ => .isFalse (fun e => by cases e)
  | .str _, .non | .str _, .bl _ | .str _, .int _ | .str _, .tup _ | .str _, .scr _ | .str _, .ref _ => .isFalse (fun e => by cases e)
  | .tup _, .non | .tup _, .bl _ | .tup _, .int _ | .tup _, .str _ | .tup _, .scr _ | .tup _, .ref _ => .isFalse (fun e => by cases e)
  | .scr _, .non | .scr _, .bl _ | .scr _, .int _ | .scr _, .str _ | .scr _, .tup _ | .scr _, .ref _ => .isFalse (fun e => by cases e)
  | .ref _, .non | .ref _, .bl _ | .ref _, .int _ | .ref _, .str _ | .ref _, .tup _ | .ref _, .scr _ => .isFalse (fun e => by cases e)
def D.decL : (a b : List D) → Decidable (a = b)
  | [], [] => .isTrue rfl
  | [], _ :: _ => .isFalse (fun e => by cases e)
  | _ :: _, [] => .isFalse (fun e => by cases e)
  | x :: xs, y :: ys => match D.dec x y, D.decL xs ys with
    | .isTrue h, .isTrue g => .isTrue (by rw [h, g])
    | .isFalse h, _ => .isFalse (fun e => by cases e; exact h rfl)
    | _, .isFalse h => .isFalse (fun e => by cases e; exact h rfl)
end
instance : DecidableEq D := D.dec

inductive O where
  | lst (xs : List D) | dict (kvs : List (D × D)) | ins (c : Str) (fs : List (Str × D)) | fd (kvs : List (D × D))
  deriving Inhabited, DecidableEq
abbrev Sto := List O
inductive R (α : Type) where | ok (a : α) (S : Sto) | exc (c : Str) (S : Sto) | err
def R.bind {α β : Type} : R α → (α → Sto → R β) → R β
  | .ok a S, k => k a S
  | .exc c S, _ => .exc c S
  | .err, _ => .err
@[simp] theorem R.bind_ok {α β : Type} (a : α) (S : Sto) (k : α → Sto → R β) : R.bind (.ok a S) k = k a S := rfl
@[simp] theorem R.bind_exc {α β : Type} (c : Str) (S : Sto) (k : α → Sto → R β) : R.bind (.exc c S) k = .exc c S := rfl
@[simp] theorem R.bind_err {α β : Type} (k : α → Sto → R β) : R.bind .err k = .err := rfl
abbrev Env := List (Option D)
abbrev DE := Env → Sto → R D
abbrev DT := Env → Sto → R Bool
abbrev DA := Env → Sto → R (List D)
inductive Fl where | nx (e : Env) (S : Sto) | rt (d : D) (S : Sto) | bk (e : Env) (S : Sto) | ct (e : Env) (S : Sto) | exc (c : Str) (e : Env) (S : Sto) | err
abbrev DS := Env → Sto → Fl

/-! ### how data stand in the abstract heap -/
abbrev Fg := PySem.W.Frag
abbrev Mg := Str → Option Value
/-- a list that nobody writes -/
def FzL (K : Fg) (H : Hp) (a : Addr) (vs : List V) : Prop := (∃ o, H a = some (.frz o (.lst vs))) ∨
    ∃ (o : Obj) (its : Array Value) (n : Nat), K.lookup a = some o ∧ o.cls = .type "list" ∧ o.dict = none ∧ o.data = .seq its n ∧ its.size ≤ sizeLine ∧ Vals vs its.toList
theorem FzL.sq {K : Fg} {H : Hp} {a : Addr} {vs : List V} (h : FzL K H a vs) : SqL K H a vs := by
  rcases h with ⟨o, h⟩ | h
  · exact .inl (.inr ⟨o, h⟩)
  · exact .inr h

mutual
inductive Rep (K : Fg) (ρ : List Addr) (H : Hp) : V → D → Prop
  | non : Rep K ρ H .non .non
  | bl (b : Bool) : Rep K ρ H (.bl b) (.bl b)
  | int (i : Int) : Rep K ρ H (.int i) (.int i)
  | str (x : Str) : Rep K ρ H (.str x) (.str x)
  | tup {a : Addr} {xs : List V} {ds : List D} : SqT K H a xs → RepL K ρ H xs ds → Rep K ρ H (.ref a) (.tup ds)
  | scr {a : Addr} {xs : List V} {ds : List D} : FzL K H a xs → RepL K ρ H xs ds → Rep K ρ H (.ref a) (.scr ds)
  | ref {n : Nat} {a : Addr} : ρ[n]? = some a → Rep K ρ H (.ref a) (.ref n)
inductive RepL (K : Fg) (ρ : List Addr) (H : Hp) : List V → List D → Prop
  | nil : RepL K ρ H [] []
  | cons {v : V} {vs : List V} {d : D} {ds : List D} : Rep K ρ H v d → RepL K ρ H vs ds → RepL K ρ H (v :: vs) (d :: ds)
end

/-- from one state to a later one -/
structure Stp (ρ : List Addr) (H : Hp) (ρ' : List Addr) (H' : Hp) : Prop where
  ext : ∃ l, ρ' = ρ ++ l
  new : ∀ a, a ∈ ρ' → a ∈ ρ ∨ H a = none
  old : ∀ a o, a ∉ ρ → H a = some o → H' a = some o
  frz : ∀ a o u, H a = some (.frz o u) → H' a = some (.frz o u)
  tup : ∀ a xs, H a = some (.tup xs) → H' a = some (.tup xs)
theorem Stp.refl (ρ : List Addr) (H : Hp) : Stp ρ H ρ H := ⟨⟨[], by simp⟩, fun _ h => .inl h, fun _ _ _ h => h, fun _ _ _ h => h, fun _ _ h => h⟩
theorem Stp.trans {ρ ρ1 ρ2 : List Addr} {H H1 H2 : Hp} (a : Stp ρ H ρ1 H1) (b : Stp ρ1 H1 ρ2 H2) : Stp ρ H ρ2 H2 where
  ext := by
    obtain ⟨l, rfl⟩ := a.ext
    obtain ⟨m, rfl⟩ := b.ext
    exact ⟨l ++ m, by rw [List.append_assoc]⟩
  new := fun x hx => by
    rcases b.new x hx with h | h
    · exact a.new x h
    · by_cases hr : x ∈ ρ
      · exact .inl hr
      · refine .inr ?_
        cases e : H x with
        | none => rfl
        | some o => rw [a.old x o hr e] at h; cases h
  old := fun x o hx e => b.old x o (fun h => (a.new x h).elim hx fun z => by rw [e] at z; cases z) (a.old x o hx e)
  frz := fun x o u e => b.frz x o u (a.frz x o u e)
  tup := fun x xs e => b.tup x xs (a.tup x xs e)
theorem Stp.at {ρ ρ1 : List Addr} {H H1 : Hp} (s : Stp ρ H ρ1 H1) {n : Nat} {a : Addr} (h : ρ[n]? = some a) : ρ1[n]? = some a := by
  obtain ⟨l, rfl⟩ := s.ext
  obtain ⟨q, _⟩ := List.getElem?_eq_some_iff.mp h
  rw [List.getElem?_append_left q]; exact h
theorem Stp.sqT {K : Fg} {ρ ρ1 : List Addr} {H H1 : Hp} (s : Stp ρ H ρ1 H1) {a : Addr} {xs : List V} (h : SqT K H a xs) : SqT K H1 a xs := by
  rcases h with (h | ⟨o, h⟩) | h
  · exact .inl (.inl (s.tup _ _ h))
  · exact .inl (.inr ⟨o, s.frz _ _ _ h⟩)
  · exact .inr h
theorem Stp.fz {K : Fg} {ρ ρ1 : List Addr} {H H1 : Hp} (s : Stp ρ H ρ1 H1) {a : Addr} {xs : List V} (h : FzL K H a xs) : FzL K H1 a xs := by
  rcases h with ⟨o, h⟩ | h
  · exact .inl ⟨o, s.frz _ _ _ h⟩
  · exact .inr h
mutual
theorem Rep.mono {K : Fg} {ρ ρ1 : List Addr} {H H1 : Hp} (s : Stp ρ H ρ1 H1) : ∀ {d : D} {v : V}, Rep K ρ H v d → Rep K ρ1 H1 v d
  | .non, _, .non => .non
  | .bl _, _, .bl b => .bl b
  | .int _, _, .int b => .int b
  | .str _, _, .str b => .str b
  | .tup _, _, .tup h l => .tup (s.sqT h) (RepL.mono s l)
  | .scr _, _, .scr h l => .scr (s.fz h) (RepL.mono s l)
  | .ref _, _, .ref h => .ref (s.at h)
theorem RepL.mono {K : Fg} {ρ ρ1 : List Addr} {H H1 : Hp} (s : Stp ρ H ρ1 H1) : ∀ {ds : List D} {vs : List V}, RepL K ρ H vs ds → RepL K ρ1 H1 vs ds
  | [], _, .nil => .nil
  | _ :: _, _, .cons h l => .cons (Rep.mono s h) (RepL.mono s l)
end

def keyD : Key → D
  | .inl i => .int i
  | .inr x => .str x
inductive RepKV (K : Fg) (ρ : List Addr) (H : Hp) : List (Key × V) → List (D × D) → Prop
  | nil : RepKV K ρ H [] []
  | cons {k : Key} {v : V} {d : D} {ks : List (Key × V)} {kvs : List (D × D)} : Rep K ρ H v d → RepKV K ρ H ks kvs → RepKV K ρ H ((k, v) :: ks) ((keyD k, d) :: kvs)
theorem RepKV.mono {K : Fg} {ρ ρ1 : List Addr} {H H1 : Hp} (s : Stp ρ H ρ1 H1) : ∀ {kvs : List (D × D)} {ks : List (Key × V)}, RepKV K ρ H ks kvs → RepKV K ρ1 H1 ks kvs
  | _, _, .nil => .nil
  | _, _, .cons r t => .cons (r.mono s) (RepKV.mono s t)
/-- an object -/
def ORep (K : Fg) (mg : Mg) (ρ : List Addr) (H : Hp) (a : Addr) : O → Prop
  | .lst ds => ∃ xs, H a = some (.lst xs) ∧ RepL K ρ H xs ds
  | .dict kvs => ∃ ks : List (Key × V), H a = some (.dK ks) ∧ RepKV K ρ H ks kvs
  | .ins c fs => ∃ C dx gs, mg c = some (.ref C) ∧ H a = some (.ins C dx gs) ∧ gs.map (·.1) = fs.map (·.1) ∧ RepL K ρ H (gs.map (·.2)) (fs.map (·.2))
  | .fd kvs => ∃ (ks : List (Key × V)) (ob : Obj), H a = some (.frz ob (.dK ks)) ∧ RepKV K ρ H ks kvs
theorem ORep.there {K : Fg} {mg : Mg} {ρ : List Addr} {H : Hp} {a : Addr} {o : O} (h : ORep K mg ρ H a o) : ∃ u, H a = some u := by
  cases o with
  | lst ds => obtain ⟨xs, e, _⟩ := h; exact ⟨_, e⟩
  | dict ds => obtain ⟨xs, e, _⟩ := h; exact ⟨_, e⟩
  | ins c fs => obtain ⟨C, dx, gs, _, e, _⟩ := h; exact ⟨_, e⟩
  | fd ds => obtain ⟨xs, ob, e, _⟩ := h; exact ⟨_, e⟩
theorem ORep.mono {K : Fg} {mg : Mg} {ρ ρ1 : List Addr} {H H1 : Hp} {a : Addr} {o : O} (s : Stp ρ H ρ1 H1) (e : H1 a = H a) (h : ORep K mg ρ H a o) : ORep K mg ρ1 H1 a o := by
  cases o with
  | lst ds => obtain ⟨xs, q, l⟩ := h; exact ⟨xs, e.trans q, l.mono s⟩
  | dict ds => obtain ⟨xs, q, l⟩ := h; exact ⟨xs, e.trans q, l.mono s⟩
  | ins c fs => obtain ⟨C, dx, gs, g, q, n, l⟩ := h; exact ⟨C, dx, gs, g, e.trans q, n, l.mono s⟩
  | fd ds => obtain ⟨xs, ob, q, l⟩ := h; exact ⟨xs, ob, e.trans q, l.mono s⟩
structure SR (K : Fg) (mg : Mg) (ρ : List Addr) (H : Hp) (S : Sto) : Prop where
  len : ρ.length = S.length
  nd : ρ.Nodup
  ob : ∀ (n : Nat) (o : O) (a : Addr), S[n]? = some o → ρ[n]? = some a → ORep K mg ρ H a o
section
variable {K : Fg} {mg : Mg} {ρ ρ' : List Addr} {H H' : Hp} {S S' : Sto}
theorem SR.addr (s : SR K mg ρ H S) {n : Nat} {o : O} (h : S[n]? = some o) : ∃ a, ρ[n]? = some a ∧ ORep K mg ρ H a o := by
  obtain ⟨q, _⟩ := List.getElem?_eq_some_iff.mp h
  have q' : n < ρ.length := by rw [s.len]; exact q
  exact ⟨ρ[n], List.getElem?_eq_getElem q', s.ob n o _ h (List.getElem?_eq_getElem q')⟩
theorem SR.mem (s : SR K mg ρ H S) {a : Addr} (h : a ∈ ρ) : ∃ u, H a = some u := by
  obtain ⟨n, q⟩ := List.mem_iff_getElem?.mp h
  obtain ⟨l, _⟩ := List.getElem?_eq_some_iff.mp q
  have l' : n < S.length := by rw [← s.len]; exact l
  exact (s.ob n _ a (List.getElem?_eq_getElem l') q).there
theorem SR.fresh (s : SR K mg ρ H S) {p : Addr} (h : H p = none) : p ∉ ρ := fun q => by
  obtain ⟨u, e⟩ := s.mem q
  rw [h] at e; cases e
theorem stp_new {p : Addr} {o : HO} (h : H p = none) : Stp ρ H (ρ ++ [p]) (upd H p o) where
  ext := ⟨[p], rfl⟩
  new := fun a ha => by
    rcases List.mem_append.mp ha with z | z
    · exact .inl z
    · obtain rfl := List.mem_singleton.mp z
      exact .inr h
  old := fun a u _ e => by rw [upd_ne (ne_of_none e h)]; exact e
  frz := fun a u v e => by rw [upd_ne (ne_of_none e h)]; exact e
  tup := fun a u e => by rw [upd_ne (ne_of_none e h)]; exact e
/-- a new thing that the store does not name -/
theorem stp_val {p : Addr} {o : HO} (h : H p = none) : Stp ρ H ρ (upd H p o) where
  ext := ⟨[], by simp⟩
  new := fun a ha => .inl ha
  old := fun a u _ e => by rw [upd_ne (ne_of_none e h)]; exact e
  frz := fun a u v e => by rw [upd_ne (ne_of_none e h)]; exact e
  tup := fun a u e => by rw [upd_ne (ne_of_none e h)]; exact e
theorem stp_write {a : Addr} {o : HO} (h : a ∈ ρ) (hm : ∃ u, H a = some u ∧ Mut (some u)) : Stp ρ H ρ (upd H a o) where
  ext := ⟨[], by simp⟩
  new := fun a ha => .inl ha
  old := fun b u hb e => by rw [upd_ne (fun z => hb (by rw [z]; exact h))]; exact e
  frz := fun b u v e => by
    obtain ⟨w, q, m⟩ := hm
    rw [upd_ne (fun z => by subst z; rw [e] at q; cases q; exact m)]; exact e
  tup := fun b u e => by
    obtain ⟨w, q, m⟩ := hm
    rw [upd_ne (fun z => by subst z; rw [e] at q; cases q; exact m)]; exact e
theorem SR.val {p : Addr} {o : HO} (s : SR K mg ρ H S) (h : H p = none) : SR K mg ρ (upd H p o) S :=
  ⟨s.len, s.nd, fun n o a h1 h2 => (s.ob n o a h1 h2).mono (stp_val h) (by
    obtain ⟨u, e⟩ := (s.ob n o a h1 h2).there
    exact upd_ne (ne_of_none e h))⟩
theorem SR.new {p : Addr} {ho : HO} {o : O} (s : SR K mg ρ H S) (h : H p = none) (r : ORep K mg (ρ ++ [p]) (upd H p ho) p o) : SR K mg (ρ ++ [p]) (upd H p ho) (S ++ [o]) where
  len := by simp [s.len]
  nd := by
    refine List.nodup_append.mpr ⟨s.nd, by simp, fun a ha b hb => ?_⟩
    obtain rfl := List.mem_singleton.mp hb
    exact fun z => s.fresh h (z ▸ ha)
  ob := fun n o' a h1 h2 => by
    by_cases hn : n < S.length
    · rw [List.getElem?_append_left hn] at h1
      rw [List.getElem?_append_left (by rw [s.len]; exact hn)] at h2
      refine (s.ob n o' a h1 h2).mono (stp_new h) ?_
      obtain ⟨u, e⟩ := (s.ob n o' a h1 h2).there
      exact upd_ne (ne_of_none e h)
    · obtain ⟨q, _⟩ := List.getElem?_eq_some_iff.mp h1
      have e : n = S.length := by simp at q; omega
      subst e
      rw [List.getElem?_append_right (Nat.le_refl _)] at h1
      rw [← s.len, List.getElem?_append_right (Nat.le_refl _)] at h2
      simp at h1 h2
      subst h1; subst h2
      exact r
theorem SR.write {n : Nat} {a : Addr} {ho : HO} {o' : O} (s : SR K mg ρ H S) (h : ρ[n]? = some a) (hm : ∃ u, H a = some u ∧ Mut (some u)) (r : ORep K mg ρ (upd H a ho) a o') : SR K mg ρ (upd H a ho) (S.set n o') where
  len := by simp [s.len]
  nd := s.nd
  ob := fun m u b h1 h2 => by
    by_cases e : m = n
    · subst e
      rw [h] at h2; cases h2
      obtain ⟨q, _⟩ := List.getElem?_eq_some_iff.mp h1
      rw [List.getElem?_set_self (by simpa using q)] at h1
      cases h1
      exact r
    · rw [List.getElem?_set_ne (Ne.symm e)] at h1
      have ne : b ≠ a := fun z => by
        subst z
        obtain ⟨q1, e1⟩ := List.getElem?_eq_some_iff.mp h
        obtain ⟨q2, e2⟩ := List.getElem?_eq_some_iff.mp h2
        exact e ((List.getElem_inj s.nd).mp (e2.trans e1.symm))
      exact (s.ob m u b h1 h2).mono (stp_write (List.mem_of_getElem? h) hm) (upd_ne ne)
end
/-- slots -/
structure ER (K : Fg) (raw : List (Nat × V)) (ρ : List Addr) (H : Hp) (env : Env) (σ : L2.St) : Prop where
  len : σ.length = env.length
  at_ : ∀ (i : Nat) (d : D), env[i]? = some (some d) → ∃ v, σ[i]? = some (some v) ∧ Rep K ρ H v d
  raw : ∀ p ∈ raw, σ[p.1]? = some (some p.2)
section
variable {K : Fg} {mg : Mg} {raw : List (Nat × V)} {ρ ρ' : List Addr} {H H' : Hp} {S S' : Sto} {env : Env} {σ : L2.St}
theorem ER.mono (e : ER K raw ρ H env σ) (s : Stp ρ H ρ' H') : ER K raw ρ' H' env σ :=
  ⟨e.len, fun i d h => let ⟨v, q, r⟩ := e.at_ i d h; ⟨v, q, r.mono s⟩, e.raw⟩
theorem ER.set {i : Nat} {v : V} {d : D} (e : ER K raw ρ H env σ) (r : Rep K ρ H v d) (hr : ∀ p ∈ raw, p.1 ≠ i) : ER K raw ρ H (env.set i (some d)) (σ.set i (some v)) :=
  ⟨by simp [e.len], fun j d' h => by
    by_cases hj : j = i
    · subst hj
      obtain ⟨q, _⟩ := List.getElem?_eq_some_iff.mp h
      simp at q
      rw [List.getElem?_set_self q] at h
      cases h
      exact ⟨v, by rw [List.getElem?_set_self (by rw [e.len]; exact q)], r⟩
    · rw [List.getElem?_set_ne (Ne.symm hj)] at h
      obtain ⟨v', q, r'⟩ := e.at_ j d' h
      exact ⟨v', by rw [List.getElem?_set_ne (Ne.symm hj)]; exact q, r'⟩,
  fun p hp => by rw [List.getElem?_set_ne (Ne.symm (hr p hp))]; exact e.raw p hp⟩
end

/-! ### readings by functions -/
def Post (K : Fg) (mg : Mg) (W : WX) (ρ : List Addr) (H : Hp) (σ : L2.St) {α β : Type} (rep : List Addr → Hp → β → α → Prop) (r : R α) (Q : β → Hp → Prop) : Prop :=
  match r with
  | .ok d S' => ∀ v ρ' H', Stp ρ H ρ' H' → SR K mg ρ' H' S' → rep ρ' H' v d → Q v H'
  | .exc c S' => ∀ C ρ' H', mg c = some (.ref C) → Stp ρ H ρ' H' → SR K mg ρ' H' S' → W (.ref C) none σ H'
  | .err => False
abbrev repB : List Addr → Hp → Bool → Bool → Prop := fun _ _ a b => a = b
def tG (K : Fg) (mg : Mg) (raw : List (Nat × V)) (W : WX) {α β : Type} (rep : List Addr → Hp → β → α → Prop) (f : Env → Sto → R α) : L2.St → Hp → (β → Hp → Prop) → Prop := fun σ H Q =>
  ∃ ρ env S, ER K raw ρ H env σ ∧ SR K mg ρ H S ∧ Post K mg W ρ H σ rep (f env S) Q
abbrev tD (K : Fg) (mg : Mg) (raw : List (Nat × V)) (W : WX) (f : DE) : TE := tG K mg raw W (Rep K) f
abbrev tDT (K : Fg) (mg : Mg) (raw : List (Nat × V)) (W : WX) (f : DT) : TT := tG K mg raw W repB f
abbrev tDA (K : Fg) (mg : Mg) (raw : List (Nat × V)) (W : WX) (f : DA) : TA := tG K mg raw W (RepL K) f
def PostS (K : Fg) (mg : Mg) (raw : List (Nat × V)) (W : WX) (ρ : List Addr) (H : Hp) (r : Fl) (D : Ends) : Prop :=
  match r with
  | .nx e S' => ∀ σ' ρ' H', Stp ρ H ρ' H' → SR K mg ρ' H' S' → ER K raw ρ' H' e σ' → D.nx σ' H'
  | .rt d S' => ∀ v ρ' H', Stp ρ H ρ' H' → SR K mg ρ' H' S' → Rep K ρ' H' v d → D.rt v H'
  | .bk e S' => ∀ σ' ρ' H', Stp ρ H ρ' H' → SR K mg ρ' H' S' → ER K raw ρ' H' e σ' → D.bk σ' H'
  | .ct e S' => ∀ σ' ρ' H', Stp ρ H ρ' H' → SR K mg ρ' H' S' → ER K raw ρ' H' e σ' → D.ct σ' H'
  | .exc c e S' => ∀ C σ' ρ' H', mg c = some (.ref C) → Stp ρ H ρ' H' → SR K mg ρ' H' S' → ER K raw ρ' H' e σ' → W (.ref C) none σ' H'
  | .err => False
def tS (K : Fg) (mg : Mg) (raw : List (Nat × V)) (W : WX) (f : DS) : TS := fun D σ H =>
  ∃ ρ env S, ER K raw ρ H env σ ∧ SR K mg ρ H S ∧ PostS K mg raw W ρ H (f env S) D

section
variable {K : Fg} {mg : Mg} {raw : List (Nat × V)} {W : WX} {ρ ρ' ρ1 : List Addr} {H H' H1 : Hp} {σ : L2.St} {α β α' β' : Type} {rep : List Addr → Hp → β → α → Prop} {rep' : List Addr → Hp → β' → α' → Prop}
theorem Post.later {r : R α} {Q : β → Hp → Prop} (h : Post K mg W ρ H σ rep r Q) (s : Stp ρ H ρ1 H1) : Post K mg W ρ1 H1 σ rep r Q := by
  cases r with
  | ok d S' => exact fun v ρ' H' s' => h v ρ' H' (s.trans s')
  | exc c S' => exact fun C ρ' H' g s' => h C ρ' H' g (s.trans s')
  | err => exact h
theorem PostS.later {r : Fl} {D : Ends} (h : PostS K mg raw W ρ H r D) (s : Stp ρ H ρ1 H1) : PostS K mg raw W ρ1 H1 r D := by
  cases r with
  | nx e S' => exact fun v ρ' H' s' => h v ρ' H' (s.trans s')
  | rt e S' => exact fun v ρ' H' s' => h v ρ' H' (s.trans s')
  | bk e S' => exact fun v ρ' H' s' => h v ρ' H' (s.trans s')
  | ct e S' => exact fun v ρ' H' s' => h v ρ' H' (s.trans s')
  | exc c e S' => exact fun C σ' ρ' H' g s' => h C σ' ρ' H' g (s.trans s')
  | err => exact h
theorem Post.ok {d : α} {S : Sto} {Q : β → Hp → Prop} {v : β} (h : Post K mg W ρ H σ rep (.ok d S) Q) (s : Stp ρ H ρ1 H1) (sr : SR K mg ρ1 H1 S) (r : rep ρ1 H1 v d) : Q v H1 := h v ρ1 H1 s sr r
/-- THE STEP: first f, then k -/
theorem tG_bind {f : Env → Sto → R α} {k : α → Sto → R α'} {Q' : β → Hp → Prop} {Q : β' → Hp → Prop} {env : Env} {S : Sto} (e : ER K raw ρ H env σ) (s : SR K mg ρ H S)
    (h : Post K mg W ρ H σ rep' ((f env S).bind k) Q)
    (hk : ∀ d S1 v ρ1 H1, Stp ρ H ρ1 H1 → ER K raw ρ1 H1 env σ → SR K mg ρ1 H1 S1 → rep ρ1 H1 v d → Post K mg W ρ1 H1 σ rep' (k d S1) Q → Q' v H1) : tG K mg raw W rep f σ H Q' := by
  refine ⟨ρ, env, S, e, s, ?_⟩
  cases hf : f env S with
  | ok d S1 =>
    rw [hf] at h
    exact fun v ρ1 H1 st sr r => hk d S1 v ρ1 H1 st (e.mono st) sr r (Post.later h st)
  | exc c S1 => rw [hf] at h; exact h
  | err => rw [hf] at h; exact h
theorem tG_of {f : Env → Sto → R α} {Q : β → Hp → Prop} {env : Env} {S : Sto} (e : ER K raw ρ H env σ) (s : SR K mg ρ H S) (h : Post K mg W ρ H σ rep (f env S) Q) : tG K mg raw W rep f σ H Q := ⟨ρ, env, S, e, s, h⟩
/-- an expression ahead of a statement's rest -/
def thenS {α : Type} (r : R α) (env : Env) (k : α → Sto → Fl) : Fl :=
  match r with
  | .ok d S => k d S
  | .exc c S => .exc c env S
  | .err => .err
@[simp] theorem thenS_ok {α : Type} (d : α) (S : Sto) (env : Env) (k : α → Sto → Fl) : thenS (.ok d S) env k = k d S := rfl
@[simp] theorem thenS_exc {α : Type} (c : Str) (S : Sto) (env : Env) (k : α → Sto → Fl) : thenS (.exc c S) env k = .exc c env S := rfl
@[simp] theorem thenS_err {α : Type} (env : Env) (k : α → Sto → Fl) : thenS .err env k = .err := rfl
theorem tG_thenS {f : Env → Sto → R α} {k : α → Sto → Fl} {Q' : β → Hp → Prop} {Dn : Ends} {env : Env} {S : Sto} (e : ER K raw ρ H env σ) (s : SR K mg ρ H S)
    (h : PostS K mg raw W ρ H (thenS (f env S) env k) Dn)
    (hk : ∀ d S1 v ρ1 H1, Stp ρ H ρ1 H1 → ER K raw ρ1 H1 env σ → SR K mg ρ1 H1 S1 → rep ρ1 H1 v d → PostS K mg raw W ρ1 H1 (k d S1) Dn → Q' v H1) : tG K mg raw W rep f σ H Q' := by
  refine ⟨ρ, env, S, e, s, ?_⟩
  cases hf : f env S with
  | ok d S1 =>
    rw [hf] at h
    exact fun v ρ1 H1 st sr r => hk d S1 v ρ1 H1 st (e.mono st) sr r (PostS.later h st)
  | exc c S1 =>
    rw [hf] at h
    exact fun C ρ' H' g st sr => h C σ ρ' H' g st sr (e.mono st)
  | err => rw [hf] at h; exact h
end

/-! ### the judgements -/
theorem PE.imp {X : Cx} {e : Expr} {t t' : TE} (h : PE X e t) (q : ∀ σ H Q, t' σ H Q → t σ H Q) : PE X e t' := ⟨fun pins s σ H Q I z => h.run pins s σ H Q I (q σ H Q z)⟩
theorem PT.imp {X : Cx} {e : Expr} {t t' : TT} (h : PT X e t) (q : ∀ σ H Q, t' σ H Q → t σ H Q) : PT X e t' := ⟨fun pins s σ H Q I z => h.run pins s σ H Q I (q σ H Q z)⟩
theorem PW.imp {X : Cx} {e : Expr} {t t' : TT} (h : PW X e t) (q : ∀ σ H Q, t' σ H Q → t σ H Q) : PW X e t' := ⟨fun whole pins s σ H Q I z => h.run whole pins s σ H Q I (q σ H Q z)⟩
theorem PA.imp {X : Cx} {e : List Expr} {t t' : TA} (h : PA X e t) (q : ∀ σ H Q, t' σ H Q → t σ H Q) : PA X e t' := ⟨fun pos pins s σ H Q I z => h.run pos pins s σ H Q I (q σ H Q z)⟩
theorem PS.imp {X : Cx} {e : Stmt} {t t' : TS} (h : PS X e t) (q : ∀ σ H D, t' D σ H → t D σ H) : PS X e t' := ⟨fun pins s σ H D I z => h.run pins s σ H D I (q σ H D z)⟩
theorem PSs.imp {X : Cx} {e : List Stmt} {t t' : TS} (h : PSs X e t) (q : ∀ σ H D, t' D σ H → t D σ H) : PSs X e t' := ⟨fun pins s σ H D I z => h.run pins s σ H D I (q σ H D z)⟩
abbrev EX (X : Cx) (raw : List (Nat × V)) (W : WX) (e : Expr) (f : DE) : Prop := PE X e (tD X.K X.mg raw W f)
abbrev TX (X : Cx) (raw : List (Nat × V)) (W : WX) (e : Expr) (f : DT) : Prop := PT X e (tDT X.K X.mg raw W f)
abbrev WTX (X : Cx) (raw : List (Nat × V)) (W : WX) (e : Expr) (f : DT) : Prop := PW X e (tDT X.K X.mg raw W f)
abbrev AX (X : Cx) (raw : List (Nat × V)) (W : WX) (es : List Expr) (f : DA) : Prop := PA X es (tDA X.K X.mg raw W f)
abbrev SX (X : Cx) (raw : List (Nat × V)) (W : WX) (s : Stmt) (f : DS) : Prop := PS X s (tS X.K X.mg raw W f)
abbrev BX (X : Cx) (raw : List (Nat × V)) (W : WX) (s : List Stmt) (f : DS) : Prop := PSs X s (tS X.K X.mg raw W f)
end RL

namespace RL
open PySem PySem.Spec PyProof.Rows L2

/-! ### ends -/
section
variable {K : Fg} {mg : Mg} {raw : List (Nat × V)} {W : WX} {ρ : List Addr} {H : Hp} {σ : L2.St} {S : Sto}
theorem post_val {α β : Type} {rep : List Addr → Hp → β → α → Prop} {d : α} {v : β} {Q : β → Hp → Prop} (h : Post K mg W ρ H σ rep (.ok d S) Q) (s : SR K mg ρ H S) (r : rep ρ H v d) : Q v H := h v ρ H (Stp.refl _ _) s r
theorem at_new {α : Type} (l : List α) (x : α) : (l ++ [x])[l.length]? = some x := by simp
theorem rep_new {p : Addr} {H' : Hp} (s : SR K mg ρ H S) : Rep K (ρ ++ [p]) H' (.ref p) (.ref S.length) := .ref (by rw [← s.len]; exact at_new _ _)
theorem post_lst {ds : List D} {xs : List V} {Q : V → Hp → Prop} (h : Post K mg W ρ H σ (Rep K) (.ok (.ref S.length) (S ++ [.lst ds])) Q) (s : SR K mg ρ H S) (r : RepL K ρ H xs ds) : ∀ p, H p = none → Q (.ref p) (upd H p (.lst xs)) := fun p hp =>
  h (.ref p) (ρ ++ [p]) _ (stp_new hp) (s.new hp ⟨xs, upd_same, r.mono (stp_new hp)⟩) (rep_new s)
theorem post_tup {ds : List D} {xs : List V} {Q : V → Hp → Prop} (h : Post K mg W ρ H σ (Rep K) (.ok (.tup ds) S) Q) (s : SR K mg ρ H S) (r : RepL K ρ H xs ds) : ∀ p, H p = none → Q (.ref p) (upd H p (.tup xs)) := fun p hp =>
  h (.ref p) ρ _ (stp_val hp) (s.val hp) (.tup (.of upd_same) (r.mono (stp_val hp)))
end
theorem RepL.length {K : Fg} {ρ : List Addr} {H : Hp} : ∀ {vs : List V} {ds : List D}, RepL K ρ H vs ds → vs.length = ds.length
  | _, _, .nil => rfl
  | _, _, .cons _ t => by rw [List.length_cons, List.length_cons, RepL.length t]
theorem RepL.append {K : Fg} {ρ : List Addr} {H : Hp} : ∀ {vs us : List V} {ds es : List D}, RepL K ρ H vs ds → RepL K ρ H us es → RepL K ρ H (vs ++ us) (ds ++ es)
  | _, _, _, _, .nil, h => h
  | _, _, _, _, .cons r t, h => .cons r (RepL.append t h)
theorem RepL.get {K : Fg} {ρ : List Addr} {H : Hp} : ∀ {vs : List V} {ds : List D} {i : Nat} {d : D}, RepL K ρ H vs ds → ds[i]? = some d → ∃ v, vs[i]? = some v ∧ Rep K ρ H v d
  | _, _, _, _, .nil, h => by simp at h
  | _, _, 0, _, .cons r t, h => by simp at h; subst h; exact ⟨_, rfl, r⟩
  | _, _, i + 1, _, .cons r t, h => by
    obtain ⟨v, q, r'⟩ := RepL.get (i := i) t (by simpa using h)
    exact ⟨v, by simpa using q, r'⟩
theorem RepL.set {K : Fg} {ρ : List Addr} {H : Hp} {v : V} {d : D} (r : Rep K ρ H v d) : ∀ {vs : List V} {ds : List D} (i : Nat), RepL K ρ H vs ds → RepL K ρ H (vs.set i v) (ds.set i d)
  | _, _, _, .nil => .nil
  | _, _, 0, .cons _ t => .cons r t
  | _, _, i + 1, .cons q t => .cons q (RepL.set r i t)
theorem RepL.take {K : Fg} {ρ : List Addr} {H : Hp} : ∀ {vs : List V} {ds : List D} (n : Nat), RepL K ρ H vs ds → RepL K ρ H (vs.take n) (ds.take n)
  | _, _, 0, _ => .nil
  | _, _, _ + 1, .nil => .nil
  | _, _, n + 1, .cons r t => .cons r (RepL.take n t)
theorem RepL.drop {K : Fg} {ρ : List Addr} {H : Hp} : ∀ {vs : List V} {ds : List D} (n : Nat), RepL K ρ H vs ds → RepL K ρ H (vs.drop n) (ds.drop n)
  | _, _, 0, r => r
  | _, _, _ + 1, .nil => .nil
  | _, _, n + 1, .cons r t => RepL.drop n t
theorem RepL.reverse {K : Fg} {ρ : List Addr} {H : Hp} : ∀ {vs : List V} {ds : List D}, RepL K ρ H vs ds → RepL K ρ H vs.reverse ds.reverse
  | _, _, .nil => .nil
  | _, _, .cons r t => by rw [List.reverse_cons, List.reverse_cons]; exact RepL.append (RepL.reverse t) (.cons r .nil)
theorem RepL.eraseIdx {K : Fg} {ρ : List Addr} {H : Hp} : ∀ {vs : List V} {ds : List D} (i : Nat), RepL K ρ H vs ds → RepL K ρ H (vs.eraseIdx i) (ds.eraseIdx i)
  | _, _, _, .nil => .nil
  | _, _, 0, .cons _ t => t
  | _, _, i + 1, .cons r t => .cons r (RepL.eraseIdx i t)
theorem RepL.dropLast {K : Fg} {ρ : List Addr} {H : Hp} {vs : List V} {ds : List D} (h : RepL K ρ H vs ds) : RepL K ρ H vs.dropLast ds.dropLast := by
  rw [List.dropLast_eq_take, List.dropLast_eq_take, h.length]; exact h.take _
theorem RepL.nil_iff {K : Fg} {ρ : List Addr} {H : Hp} {vs : List V} {ds : List D} (h : RepL K ρ H vs ds) : vs = [] ↔ ds = [] := by
  cases h <;> simp
theorem RepL.ints {K : Fg} {ρ : List Addr} {H : Hp} : ∀ {vs : List V} {ns : List Int}, RepL K ρ H vs (ns.map D.int) → vs = ns.map V.int
  | _, [], .nil => rfl
  | _, n :: ns, h => by
    rw [List.map_cons] at h
    cases h with
    | cons r t => cases r; rw [List.map_cons, RepL.ints t]
theorem RepL.strs {K : Fg} {ρ : List Addr} {H : Hp} : ∀ {vs : List V} {ns : List Str}, RepL K ρ H vs (ns.map D.str) → vs = ns.map V.str
  | _, [], .nil => rfl
  | _, n :: ns, h => by
    rw [List.map_cons] at h
    cases h with
    | cons r t => cases r; rw [List.map_cons, RepL.strs t]
theorem RepL.bls {K : Fg} {ρ : List Addr} {H : Hp} : ∀ {vs : List V} {ns : List Bool}, RepL K ρ H vs (ns.map D.bl) → vs = ns.map V.bl
  | _, [], .nil => rfl
  | _, n :: ns, h => by
    rw [List.map_cons] at h
    cases h with
    | cons r t => cases r; rw [List.map_cons, RepL.bls t]
theorem repL_ints {K : Fg} {ρ : List Addr} {H : Hp} : ∀ ns : List Int, RepL K ρ H (ns.map V.int) (ns.map D.int)
  | [] => .nil
  | n :: ns => .cons (.int n) (repL_ints ns)
theorem repL_strs {K : Fg} {ρ : List Addr} {H : Hp} : ∀ ns : List Str, RepL K ρ H (ns.map V.str) (ns.map D.str)
  | [] => .nil
  | n :: ns => .cons (.str n) (repL_strs ns)

/-! ### names, constants -/
def dV (i : Nat) : DE := fun env S => match env[i]? with
  | some (some d) => .ok d S
  | _ => .err
def dC (d : D) : DE := fun _ S => .ok d S
section
variable {X : Cx} {raw : List (Nat × V)} {W : WX} {pos : Pos}
theorem ex_v (i : Nat) {x : Str} (hN : X.N[i]? = some x := by rfl) (hv : Vis X.env.scope x := by first | exact Or.inl rfl | exact Or.inr (Or.inl rfl) | exact Or.inr (Or.inr rfl)) (hd : (x == ("__debug__" : Str)) = false := by decide)
    (hcd : (x == ("__classdict__" : Str)) = false := by decide) : EX X raw W (.Name x pos) (dV i) :=
  PE.imp (pe_var hN hv hd hcd) fun σ H Q ⟨ρ, env, S, e, s, h⟩ => by
    cases q : env[i]? with
    | none => simp only [dV, q] at h; exact h.elim
    | some o =>
      cases o with
      | none => simp only [dV, q] at h; exact h.elim
      | some d =>
        simp only [dV, q] at h
        obtain ⟨v, e1, r⟩ := e.at_ i d q
        exact ⟨v, e1, post_val h s r⟩
theorem ex_c {e : Expr} {v : V} {d : D} (h : PE X e (tC v)) (r : ∀ ρ H, Rep X.K ρ H v d) : EX X raw W e (dC d) :=
  PE.imp h fun σ H Q ⟨ρ, env, S, e, s, h⟩ => post_val h s (r ρ H)
theorem ex_int {i j} : EX X raw W (.Constant (.int i) j pos) (dC (.int i)) := ex_c pe_int fun _ _ => .int i
theorem ex_bl {i j} : EX X raw W (.Constant (.bool i) j pos) (dC (.bl i)) := ex_c pe_bl fun _ _ => .bl i
theorem ex_non {j} : EX X raw W (.Constant .none j pos) (dC .non) := ex_c pe_non fun _ _ => .non
theorem ex_str {x j} : EX X raw W (.Constant (.str x) j pos) (dC (.str x)) := ex_c pe_str fun _ _ => .str x
/-- a constant of the module: v stands for d at every state -/
def RepK (K : Fg) (u : Value) (d : D) : Prop := ∃ v, RelV v u ∧ ∀ ρ H, Rep K ρ H v d
theorem ex_g {x : Str} {u : Value} {d : D} (hg : Gl X x) (hm : X.mg x = some u) (r : RepK X.K u d) (hd : (x == ("__debug__" : Str)) = false := by decide) : EX X raw W (.Name x pos) (dC d) :=
  let ⟨_, r1, r2⟩ := r
  ex_c (pe_glob hg hm r1 hd) r2

/-! ### two-place operations by values -/
abbrev G1 := D → Sto → R D
abbrev G2 := D → D → Sto → R D
abbrev GA := List D → Sto → R D
def dBin (g : G2) (fa fb : DE) : DE := fun env S => (fa env S).bind fun x S1 => (fb env S1).bind fun y S2 => g x y S2
def dUn (g : G1) (fa : DE) : DE := fun env S => (fa env S).bind fun x S1 => g x S1
def Ok2 (K : Fg) (mg : Mg) (r : R2) (g : G2) : Prop := ∀ (W : WX) (ρ : List Addr) (H : Hp) (σ : L2.St) (S : Sto) (x y : V) (dx dy : D) (Q : V → Hp → Prop), SR K mg ρ H S → Rep K ρ H x dx → Rep K ρ H y dy → Post K mg W ρ H σ (Rep K) (g dx dy S) Q → r x y H Q
def Ok1 (K : Fg) (mg : Mg) (r : V → Hp → VK → Prop) (g : G1) : Prop := ∀ (W : WX) (ρ : List Addr) (H : Hp) (σ : L2.St) (S : Sto) (x : V) (dx : D) (Q : V → Hp → Prop), SR K mg ρ H S → Rep K ρ H x dx → Post K mg W ρ H σ (Rep K) (g dx S) Q → r x H Q
def OkA (K : Fg) (mg : Mg) (r : List V → Hp → VK → Prop) (g : GA) : Prop := ∀ (W : WX) (ρ : List Addr) (H : Hp) (σ : L2.St) (S : Sto) (xs : List V) (ds : List D) (Q : V → Hp → Prop), SR K mg ρ H S → RepL K ρ H xs ds → Post K mg W ρ H σ (Rep K) (g ds S) Q → r xs H Q
variable {a b c : Expr} {fa fb fc : DE} {r r' : R2} {g g' : G2}
theorem tD_bin {σ : L2.St} {H : Hp} {Q : VK} (ok : Ok2 X.K X.mg r g) (h : tD X.K X.mg raw W (dBin g fa fb) σ H Q) : tOp r (tD X.K X.mg raw W fa) (tD X.K X.mg raw W fb) σ H Q := by
  obtain ⟨ρ, env, S, e, s, h⟩ := h
  exact tG_bind e s h fun d S1 v ρ1 H1 st e1 s1 r1 h1 => tG_bind e1 s1 h1 fun d2 S2 v2 ρ2 H2 st2 e2 s2 r2 h2 => ok W ρ2 H2 σ S2 _ _ _ _ Q s2 (r1.mono st2) r2 h2
theorem ex_bin {op : Operator} (ho : OpR X (binaryOp op) r) (ok : Ok2 X.K X.mg r g) (ha : EX X raw W a fa) (hb : EX X raw W b fb) : EX X raw W (.BinOp a op b pos) (dBin g fa fb) :=
  PE.imp (pe_op ho ha hb) fun _ _ _ => tD_bin ok
theorem ex_cmp {op : CmpOp} (ho : OpR X (compareOp op) r) (ok : Ok2 X.K X.mg r g) (ha : EX X raw W a fa) (hb : EX X raw W b fb) (hm : behindInMarks op b = false) : EX X raw W (.Compare a [op] [b] pos) (dBin g fa fb) :=
  PE.imp (pe_cmpR ho ha hb hm) fun _ _ _ => tD_bin ok
/-- a value that is a truth, as a test -/
def asB (r : R D) : R Bool := match r with
  | .ok (.bl b) S => .ok b S
  | .exc c S => .exc c S
  | _ => .err
@[simp] theorem asB_bl (b : Bool) (S : Sto) : asB (.ok (.bl b) S) = .ok b S := rfl
def dT (f : DE) : DT := fun env S => asB (f env S)
theorem asB_bind {α : Type} (x : R α) (k : α → Sto → R D) : asB (x.bind k) = x.bind fun a S => asB (k a S) := by cases x <;> rfl
theorem post_asB {ρ : List Addr} {H : Hp} {σ : L2.St} {r : R D} {Q : Bool → Hp → Prop} {K : Fg} {mg : Mg} (h : Post K mg W ρ H σ repB (asB r) Q) : Post K mg W ρ H σ (Rep K) r (fun x H' => ∃ k, x = .bl k ∧ Q k H') := by
  cases r with
  | ok d S =>
    cases d with
    | bl b => exact fun v ρ' H' st sr r => by cases r; exact ⟨b, rfl, h b ρ' H' st sr rfl⟩
    | _ => exact h.elim
  | exc c S => exact h
  | err => exact h
theorem tD_asB {f : DE} {σ : L2.St} {H : Hp} {Q : Bool → Hp → Prop} (h : tDT X.K X.mg raw W (dT f) σ H Q) : tD X.K X.mg raw W f σ H (fun x H' => ∃ k, x = .bl k ∧ Q k H') := by
  obtain ⟨ρ, env, S, e, s, h⟩ := h
  exact ⟨ρ, env, S, e, s, post_asB h⟩
theorem tx_cmp {op : CmpOp} (ho : OpR X (compareOp op) r) (ok : Ok2 X.K X.mg r g) (ha : EX X raw W a fa) (hb : EX X raw W b fb) (hm : behindInMarks op b = false) : TX X raw W (.Compare a [op] [b] pos) (dT (dBin g fa fb)) :=
  PT.imp (pt_cmpR ho ha hb hm) fun _ _ _ h => tD_bin ok (tD_asB h)
theorem tx_val {e : Expr} {f : DE} (h : EX X raw W e f) (he : ∀ whole, isTrue e X.env whole = (do let v ← whole; standAt e.pos; holding [v] (truthy v)) := by intro _; rfl) : TX X raw W e (dT f) :=
  PT.imp (pt_val h he) fun _ _ _ h => tD_asB h

/-! ### chains -/
def dChain (g g' : G2) (fa fb fc : DE) : DE := fun env S => (fa env S).bind fun x S1 => (fb env S1).bind fun y S2 => (asB (g x y S2)).bind fun k S3 => if k = true then (fc env S3).bind fun z S4 => g' y z S4 else .ok (.bl false) S3
theorem tD_chain {σ : L2.St} {H : Hp} {Q : VK} (ok : Ok2 X.K X.mg r g) (ok' : Ok2 X.K X.mg r' g') (h : tD X.K X.mg raw W (dChain g g' fa fb fc) σ H Q) :
    tChain r r' (tD X.K X.mg raw W fa) (tD X.K X.mg raw W fb) (tD X.K X.mg raw W fc) σ H Q := by
  obtain ⟨ρ, env, S, e, s, h⟩ := h
  refine tG_bind e s h fun d S1 v ρ1 H1 st e1 s1 r1 h1 => tG_bind e1 s1 h1 fun d2 S2 v2 ρ2 H2 st2 e2 s2 r2 h2 => ok W ρ2 H2 σ S2 _ _ _ _ _ s2 (r1.mono st2) r2 ?_
  cases hg : g d d2 S2 with
  | err => rw [hg] at h2; exact h2
  | exc c S3 => rw [hg] at h2; exact h2
  | ok d3 S3 =>
    rw [hg] at h2
    cases d3 with
    | bl k =>
      intro v3 ρ3 H3 st3 s3 r3
      cases r3
      refine ⟨k, rfl, ?_⟩
      have h3 := Post.later h2 st3
      simp only [asB_bl, R.bind_ok] at h3
      by_cases hk : k = true
      · rw [if_pos hk] at h3 ⊢
        exact tG_bind (e2.mono st3) s3 h3 fun d4 S4 v4 ρ4 H4 st4 e4 s4 r4 h4 => ok' W ρ4 H4 σ S4 _ _ _ _ _ s4 ((r2.mono st3).mono st4) r4 h4
      · rw [if_neg hk] at h3 ⊢
        exact post_val h3 s3 (.bl false)
    | _ => exact h2.elim
theorem ex_chain {op op' : CmpOp} (ho : OpR X (compareOp op) r) (ok : Ok2 X.K X.mg r g) (ho' : OpR X (compareOp op') r') (ok' : Ok2 X.K X.mg r' g') (ha : EX X raw W a fa) (hb : EX X raw W b fb) (hc : EX X raw W c fc)
    (hm : lastMarks [op, op'] [b, c] = false := by with_unfolding_all rfl) : EX X raw W (.Compare a [op, op'] [b, c] pos) (dChain g g' fa fb fc) :=
  PE.imp (pe_chain ho ho' ha hb hc hm) fun _ _ _ => tD_chain ok ok'
theorem tx_chain {op op' : CmpOp} (ho : OpR X (compareOp op) r) (ok : Ok2 X.K X.mg r g) (ho' : OpR X (compareOp op') r') (ok' : Ok2 X.K X.mg r' g') (ha : EX X raw W a fa) (hb : EX X raw W b fb) (hc : EX X raw W c fc)
    (hm : lastMarks [op, op'] [b, c] = false := by with_unfolding_all rfl) : TX X raw W (.Compare a [op, op'] [b, c] pos) (dT (dChain g g' fa fb fc)) :=
  PT.imp (pt_chain ho ho' ha hb hc hm) fun _ _ _ h => tD_chain ok ok' (tD_asB h)

/-! ### and, or, not, if-expressions -/
variable {ta tb tc : DT} {rest : List Expr}
def dAnd (t u : DT) : DT := fun env S => (t env S).bind fun k S1 => if k = true then u env S1 else .ok false S1
def dOr (t u : DT) : DT := fun env S => (t env S).bind fun k S1 => if k = true then .ok true S1 else u env S1
def dNot (t : DT) : DT := fun env S => (t env S).bind fun k S1 => .ok (!k) S1
def dAndV (t u : DE) : DE := fun env S => (asB (t env S)).bind fun k S1 => if k = true then u env S1 else .ok (.bl false) S1
def dOrV (t u : DE) : DE := fun env S => (asB (t env S)).bind fun k S1 => if k = true then .ok (.bl true) S1 else u env S1
def dNotV (t : DE) : DE := fun env S => (asB (t env S)).bind fun k S1 => .ok (.bl (!k)) S1
def dIfE (t : DT) (fa fb : DE) : DE := fun env S => (t env S).bind fun k S1 => if k = true then fa env S1 else fb env S1
theorem wx_and1 (ha : TX X raw W a ta) : WTX X raw W (.BoolOp .And [a] pos) ta := pw_and1 ha
theorem wx_or1 (ha : TX X raw W a ta) : WTX X raw W (.BoolOp .Or [a] pos) ta := pw_or1 ha
theorem wx_and (ha : TX X raw W a ta) (hb : WTX X raw W (.BoolOp .And (b :: rest) pos) tb) : WTX X raw W (.BoolOp .And (a :: b :: rest) pos) (dAnd ta tb) :=
  PW.imp (pw_and ha hb) fun σ H Q ⟨ρ, env, S, e, s, h⟩ => tG_bind e s h fun k S1 v ρ1 H1 st e1 s1 r1 h1 => by
    cases r1
    by_cases hk : k = true
    · rw [if_pos hk] at h1 ⊢; exact tG_of e1 s1 h1
    · rw [if_neg hk] at h1 ⊢; exact post_val h1 s1 rfl
theorem wx_or (ha : TX X raw W a ta) (hb : WTX X raw W (.BoolOp .Or (b :: rest) pos) tb) : WTX X raw W (.BoolOp .Or (a :: b :: rest) pos) (dOr ta tb) :=
  PW.imp (pw_or ha hb) fun σ H Q ⟨ρ, env, S, e, s, h⟩ => tG_bind e s h fun k S1 v ρ1 H1 st e1 s1 r1 h1 => by
    cases r1
    by_cases hk : k = true
    · rw [if_pos hk] at h1 ⊢; exact post_val h1 s1 rfl
    · rw [if_neg hk] at h1 ⊢; exact tG_of e1 s1 h1
theorem tx_w {e : Expr} (h : WTX X raw W e ta) : TX X raw W e ta := PW.pt h
theorem tx_not (ha : TX X raw W a ta) : TX X raw W (.UnaryOp .Not a pos) (dNot ta) :=
  PT.imp (pt_not ha) fun σ H Q ⟨ρ, env, S, e, s, h⟩ => tG_bind e s h fun k S1 v ρ1 H1 st e1 s1 r1 h1 => by
    cases r1; exact post_val h1 s1 rfl
/-- the truth of the first, then the rest, by values -/
theorem tG_asB {ρ : List Addr} {H : Hp} {σ : L2.St} {α β : Type} {rep : List Addr → Hp → β → α → Prop} {k : Bool → Sto → R α} {Q : β → Hp → Prop} {Q' : V → Hp → Prop} {env : Env} {S : Sto} (e : ER X.K raw ρ H env σ) (s : SR X.K X.mg ρ H S)
    (h : Post X.K X.mg W ρ H σ rep ((asB (fa env S)).bind k) Q)
    (hk : ∀ d S1 ρ1 H1, Stp ρ H ρ1 H1 → ER X.K raw ρ1 H1 env σ → SR X.K X.mg ρ1 H1 S1 → Post X.K X.mg W ρ1 H1 σ rep (k d S1) Q → Q' (.bl d) H1) : tD X.K X.mg raw W fa σ H Q' := by
  refine ⟨ρ, env, S, e, s, ?_⟩
  cases hf : fa env S with
  | ok d S1 =>
    rw [hf] at h
    cases d with
    | bl b => exact fun v ρ1 H1 st sr r => by cases r; exact hk b S1 ρ1 H1 st (e.mono st) sr (Post.later h st)
    | _ => exact h.elim
  | exc c S1 => rw [hf] at h; exact h
  | err => rw [hf] at h; exact h
theorem ex_one {op} {f : DE} (h : EX X raw W a f) : EX X raw W (.BoolOp op [a] pos) f := pe_one h
theorem ex_and (ha : EX X raw W a fa) (hb : EX X raw W (.BoolOp .And (b :: rest) pos) fb) : EX X raw W (.BoolOp .And (a :: b :: rest) pos) (dAndV fa fb) :=
  PE.imp (pe_and ha hb) fun σ H Q ⟨ρ, env, S, e, s, h⟩ => tG_asB e s h fun k S1 ρ1 H1 st e1 s1 h1 => ⟨k, rfl, by
    by_cases hk : k = true
    · rw [if_pos hk] at h1 ⊢; exact tG_of e1 s1 h1
    · rw [if_neg hk] at h1 ⊢; exact post_val h1 s1 (.bl false)⟩
theorem ex_or (ha : EX X raw W a fa) (hb : EX X raw W (.BoolOp .Or (b :: rest) pos) fb) : EX X raw W (.BoolOp .Or (a :: b :: rest) pos) (dOrV fa fb) :=
  PE.imp (pe_or ha hb) fun σ H Q ⟨ρ, env, S, e, s, h⟩ => tG_asB e s h fun k S1 ρ1 H1 st e1 s1 h1 => ⟨k, rfl, by
    by_cases hk : k = true
    · rw [if_pos hk] at h1 ⊢; exact post_val h1 s1 (.bl true)
    · rw [if_neg hk] at h1 ⊢; exact tG_of e1 s1 h1⟩
theorem ex_not (ha : EX X raw W a fa) : EX X raw W (.UnaryOp .Not a pos) (dNotV fa) :=
  PE.imp (pe_not ha) fun σ H Q ⟨ρ, env, S, e, s, h⟩ => tG_asB e s h fun k S1 ρ1 H1 st e1 s1 h1 => ⟨k, rfl, post_val h1 s1 (.bl _)⟩
theorem ex_ifE (ht : TX X raw W c tc) (ha : EX X raw W a fa) (hb : EX X raw W b fb) : EX X raw W (.IfExp c a b pos) (dIfE tc fa fb) :=
  PE.imp (pe_ifExp ht ha hb) fun σ H Q ⟨ρ, env, S, e, s, h⟩ => tG_bind e s h fun k S1 v ρ1 H1 st e1 s1 r1 h1 => by
    cases r1
    by_cases hk : k = true
    · rw [if_pos hk] at h1 ⊢; exact tG_of e1 s1 h1
    · rw [if_neg hk] at h1 ⊢; exact tG_of e1 s1 h1
theorem ex_un {op : UnaryOp} {r : V → Hp → VK → Prop} {g : G1} (ho : UnR X (unaryOp op) r) (ok : Ok1 X.K X.mg r g) (ha : EX X raw W a fa) : EX X raw W (.UnaryOp op a pos) (dUn g fa) :=
  PE.imp (pe_un ho ha) fun σ H Q ⟨ρ, env, S, e, s, h⟩ => tG_bind e s h fun d S1 v ρ1 H1 st e1 s1 r1 h1 => ok W ρ1 H1 σ S1 _ _ Q s1 r1 h1

/-! ### argument lists, displays -/
def dNilA : DA := fun _ S => .ok [] S
def dConsA (f : DE) (g : DA) : DA := fun env S => (f env S).bind fun x S1 => (g env S1).bind fun xs S2 => .ok (x :: xs) S2
def lim : Nat := 16777216
theorem lim_eq : sizeLine = lim := sizeLine_eq
def newT (ds : List D) (S : Sto) : R D := if ds.length ≤ lim then .ok (.tup ds) S else .err
def newL (ds : List D) (S : Sto) : R D := if ds.length ≤ lim then .ok (.ref S.length) (S ++ [.lst ds]) else .err
def dTup (f : DA) : DE := fun env S => (f env S).bind newT
def dLst (f : DA) : DE := fun env S => (f env S).bind newL
variable {e : Expr} {es : List Expr} {f : DE} {fs : DA}
theorem ax_nil : AX X raw W [] dNilA := PA.imp pa_nil fun σ H Q ⟨ρ, env, S, e, s, h⟩ => post_val h s .nil
theorem ax_cons (ha : EX X raw W e f) (hr : AX X raw W es fs) (hs : starEach (e :: es) X.env = (false, eval e X.env) :: starEach es X.env := by rfl) : AX X raw W (e :: es) (dConsA f fs) :=
  PA.imp (pa_cons ha hr hs) fun σ H Q ⟨ρ, env, S, e, s, h⟩ => tG_bind e s h fun d S1 v ρ1 H1 st e1 s1 r1 h1 => tG_bind e1 s1 h1 fun ds S2 vs ρ2 H2 st2 e2 s2 r2 h2 => post_val h2 s2 (.cons (r1.mono st2) r2)
theorem ex_tup {k} (h : AX X raw W es fs) : EX X raw W (.Tuple es k pos) (dTup fs) :=
  PE.imp (pe_tup h) fun σ H Q ⟨ρ, env, S, e, s, h⟩ => tG_bind e s h fun d S1 v ρ1 H1 st e1 s1 r1 h1 => by
    unfold newT at h1
    split at h1
    · rename_i hl
      exact ⟨by rw [lim_eq, r1.length]; exact hl, post_tup h1 s1 r1⟩
    · exact h1.elim
theorem ex_lst (h : AX X raw W es fs) : EX X raw W (.List es pos) (dLst fs) :=
  PE.imp (pe_lst h) fun σ H Q ⟨ρ, env, S, e, s, h⟩ => tG_bind e s h fun d S1 v ρ1 H1 st e1 s1 r1 h1 => by
    unfold newL at h1
    split at h1
    · rename_i hl
      exact ⟨by rw [lim_eq, r1.length]; exact hl, post_lst h1 s1 r1⟩
    · exact h1.elim

/-! ### calls of built-ins -/
def dCB (g : GA) (fs : DA) : DE := fun env S => (fs env S).bind g
theorem tD_cb {r : List V → Hp → VK → Prop} {g : GA} {σ : L2.St} {H : Hp} {Q : VK} (ok : OkA X.K X.mg r g) (h : tD X.K X.mg raw W (dCB g fs) σ H Q) : tCB r (tDA X.K X.mg raw W fs) σ H Q := by
  obtain ⟨ρ, env, S, e, s, h⟩ := h
  exact tG_bind e s h fun ds S1 vs ρ1 H1 st e1 s1 r1 h1 => ok W ρ1 H1 σ S1 _ _ Q s1 r1 h1
theorem ex_callB {x : Str} {p : Pos} {id : String} {r : List V → Hp → VK → Prop} {g : GA} (hc : CallR X (.builtin id) r) (ok : OkA X.K X.mg r g) (hg : Gl X x) (hm : X.mg x = none) (hv : bootBuiltins x = some (.builtin id)) (ha : AX X raw W (e :: es) fs)
    (hn : x ≠ "__name__" := by decide) (hdb : (x == ("__debug__" : Str)) = false := by decide) (he : starEach (e :: es) X.env = (false, eval e X.env) :: starEach es X.env := by rfl) (hpl : (backTo pos (starEach es X.env)).any (·.1) = false := by rfl) :
    EX X raw W (.Call (.Name x p) (e :: es) [] pos) (dCB g fs) := PE.imp (pe_callB hc hg hm hv ha hn hdb he hpl) fun _ _ _ => tD_cb ok
theorem ex_callTy {x : Str} {p : Pos} {T : String} {r : List V → Hp → VK → Prop} {g : GA} (hc : CallR X (.type T) r) (ok : OkA X.K X.mg r g) (hg : Gl X x) (hm : X.mg x = none) (hv : bootBuiltins x = some (.type T)) (ha : AX X raw W (e :: es) fs)
    (hn : x ≠ "__name__" := by decide) (hdb : (x == ("__debug__" : Str)) = false := by decide) (he : starEach (e :: es) X.env = (false, eval e X.env) :: starEach es X.env := by rfl) (hpl : (backTo pos (starEach es X.env)).any (·.1) = false := by rfl) :
    EX X raw W (.Call (.Name x p) (e :: es) [] pos) (dCB g fs) := PE.imp (pe_callTy hc hg hm hv ha hn hdb he hpl) fun _ _ _ => tD_cb ok

/-! ### subscripts, slices, methods of built-in types -/
theorem ex_ix (hr : IxR X r) (ok : Ok2 X.K X.mg r g) (ha : EX X raw W a fa) (hb : EX X raw W b fb) (hs : PlainIx b) : EX X raw W (.Subscript a b pos) (dBin g fa fb) :=
  PE.imp (pe_ix hr ha hb hs) fun _ _ _ => tD_bin ok
abbrev DO := Env → Sto → R (Option Int)
abbrev repO : List Addr → Hp → Option Int → Option Int → Prop := fun _ _ a b => a = b
def dNoPart : DO := fun _ S => .ok none S
def dPart (f : DE) : DO := fun env S => (f env S).bind fun x S1 => match x with
  | .int i => .ok (some i) S1
  | _ => .err
abbrev OX (X : Cx) (raw : List (Nat × V)) (W : WX) (e : Option Expr) (f : DO) : Prop := PO X e (tG X.K X.mg raw W repO f)
theorem PO.imp {X : Cx} {e : Option Expr} {t t' : TO} (h : PO X e t) (q : ∀ σ H Q, t' σ H Q → t σ H Q) : PO X e t' := ⟨fun pins s σ H Q I z => h.run pins s σ H Q I (q σ H Q z)⟩
theorem ox_none : OX X raw W none dNoPart := PO.imp po_none fun σ H Q ⟨ρ, env, S, e, s, h⟩ => post_val h s rfl
theorem ox_some (h : EX X raw W e f) : OX X raw W (some e) (dPart f) := PO.imp (po_some h) fun σ H Q ⟨ρ, env, S, e, s, h⟩ => tG_bind e s h fun d S1 v ρ1 H1 st e1 s1 r1 h1 => by
  cases d with
  | int i => cases r1; exact ⟨i, rfl, post_val h1 s1 rfl⟩
  | _ => exact h1.elim
abbrev GS := D → Option Int → Option Int → Sto → R D
def OkS (K : Fg) (mg : Mg) (r : V → Option Int → Option Int → Hp → VK → Prop) (g : GS) : Prop := ∀ (W : WX) (ρ : List Addr) (H : Hp) (σ : L2.St) (S : Sto) (x : V) (dx : D) (lo hi : Option Int) (Q : V → Hp → Prop), SR K mg ρ H S → Rep K ρ H x dx → Post K mg W ρ H σ (Rep K) (g dx lo hi S) Q → r x lo hi H Q
def dSl (g : GS) (f : DE) (fl fh : DO) : DE := fun env S => (f env S).bind fun x S1 => (fl env S1).bind fun l S2 => (fh env S2).bind fun u S3 => g x l u S3
theorem ex_slice {rs : V → Option Int → Option Int → Hp → VK → Prop} {gs : GS} {lo hi : Option Expr} {fl fh : DO} {p2 : Pos} (hr : SlR X rs) (ok : OkS X.K X.mg rs gs) (he : EX X raw W e f) (hl : OX X raw W lo fl) (hh : OX X raw W hi fh) :
    EX X raw W (.Subscript e (.Slice lo hi none p2) pos) (dSl gs f fl fh) :=
  PE.imp (pe_slice hr he hl hh) fun σ H Q ⟨ρ, env, S, e, s, h⟩ => tG_bind e s h fun d S1 v ρ1 H1 st e1 s1 r1 h1 => tG_bind e1 s1 h1 fun l S2 l' ρ2 H2 st2 e2 s2 r2 h2 => tG_bind e2 s2 h2 fun u S3 u' ρ3 H3 st3 e3 s3 r3 h3 => by
    cases r2; cases r3
    exact ok W ρ3 H3 σ S3 _ _ _ _ Q s3 ((r1.mono st2).mono st3) h3
end
end RL

namespace RL
open PySem PySem.Spec PyProof.Rows L2

/-! ### data as PyData, for == -/
def toP (S : Sto) : Nat → D → Option PyData
  | 0, _ => none
  | k + 1, d => match d with
    | .non => some .none
    | .bl b => some (.bool b)
    | .int i => some (.int i)
    | .str x => if PyData.strOk x = true then some (.str x) else none
    | .tup ds => (ds.mapM (toP S k)).map .tuple
    | .scr ds => (ds.mapM (toP S k)).map .list
    | .ref n => match S[n]? with
      | some (.lst ds) => (ds.mapM (toP S k)).map .list
      | _ => none
theorem mapM_some {α β : Type} {f : α → Option β} : ∀ {l : List α} {r : List β}, l.mapM f = some r → Paired (fun a b => f a = some b) l r
  | [], r, h => by simp at h; subst h; exact .nil
  | a :: l, r, h => by
    rw [List.mapM_cons] at h
    cases e : f a with
    | none => rw [e] at h; cases h
    | some b =>
      cases e2 : l.mapM f with
      | none => rw [e, e2] at h; cases h
      | some bs =>
        rw [e, e2] at h
        cases h
        exact .cons e (mapM_some e2)
theorem dpAll_of {K : Fg} {ρ : List Addr} {H : Hp} {f : D → Option PyData} (ih : ∀ d v p, Rep K ρ H v d → f d = some p → Dp K H v p) : ∀ {ds : List D} {vs : List V} {ps : List PyData}, RepL K ρ H vs ds → Paired (fun a b => f a = some b) ds ps → DpAll K H vs ps
  | _, _, _, .nil, .nil => .nil
  | _, _, _, .cons r t, .cons q u => .cons (ih _ _ _ r q) (dpAll_of ih t u)
theorem dp_of {K : Fg} {mg : Mg} {ρ : List Addr} {H : Hp} {S : Sto} (s : SR K mg ρ H S) : ∀ (k : Nat) (d : D) (v : V) (p : PyData), Rep K ρ H v d → toP S k d = some p → Dp K H v p
  | 0, _, _, _, _, h => by cases h
  | k + 1, d, v, p, r, h => by
    cases r with
    | non => cases h; exact .non
    | bl b => cases h; exact .bl b
    | int b => cases h; exact .int b
    | str x =>
      unfold toP at h
      dsimp only at h
      split at h
      · cases h; exact .str x
      · cases h
    | tup hq l =>
      obtain ⟨ps, e, rfl⟩ := Option.map_eq_some_iff.mp h
      exact .tup hq (dpAll_of (fun d v p r h => dp_of s k d v p r h) l (mapM_some e))
    | scr hq l =>
      obtain ⟨ps, e, rfl⟩ := Option.map_eq_some_iff.mp h
      exact .lst hq.sq (dpAll_of (fun d v p r h => dp_of s k d v p r h) l (mapM_some e))
    | @ref n a hn =>
      unfold toP at h
      dsimp only at h
      cases hS : S[n]? with
      | none => rw [hS] at h; cases h
      | some o =>
        rw [hS] at h
        cases o with
        | lst ds =>
          obtain ⟨ps, e, rfl⟩ := Option.map_eq_some_iff.mp h
          obtain ⟨xs, hx, l⟩ := s.ob n _ a hS hn
          exact .lst (.of hx) (dpAll_of (fun d v p r h => dp_of s k d v p r h) l (mapM_some e))
        | _ => cases h
theorem lay_all {f : D → Option PyData} (ih : ∀ d p, f d = some p → p.canLay0 = true) : ∀ {ds : List D} {ps : List PyData}, Paired (fun a b => f a = some b) ds ps → PyData.canLayAll0 ps = true
  | _, _, .nil => rfl
  | _, _, .cons q u => by
    unfold PyData.canLayAll0
    rw [ih _ _ q, lay_all ih u] <;> rfl
theorem depth_all {f : D → Option PyData} {k : Nat} (ih : ∀ d p, f d = some p → p.depth ≤ k) : ∀ {ds : List D} {ps : List PyData}, Paired (fun a b => f a = some b) ds ps → PyData.depthAll ps ≤ k
  | _, _, .nil => by simp [PyData.depthAll]
  | _, _, .cons q u => by
    have h1 := ih _ _ q
    have h2 := depth_all ih u
    simp only [PyData.depthAll]
    omega
theorem toP_lay {S : Sto} : ∀ (k : Nat) (d : D) (p : PyData), toP S k d = some p → p.canLay0 = true ∧ p.depth ≤ k
  | 0, _, _, h => by cases h
  | k + 1, d, p, h => by
    have lst : ∀ {ds : List D} {ps : List PyData}, ds.mapM (toP S k) = some ps → PyData.canLayAll0 ps = true ∧ PyData.depthAll ps ≤ k := fun e =>
      ⟨lay_all (fun d p h => (toP_lay k d p h).1) (mapM_some e), depth_all (fun d p h => (toP_lay k d p h).2) (mapM_some e)⟩
    unfold toP at h
    cases d with
    | non => cases h; simp [PyData.canLay0, PyData.depth]
    | bl b => cases h; simp [PyData.canLay0, PyData.depth]
    | int b => cases h; simp [PyData.canLay0, PyData.depth]
    | str x =>
      dsimp only at h
      split at h
      · rename_i q
        cases h; simp [PyData.canLay0, PyData.depth, q]
      · cases h
    | tup ds =>
      obtain ⟨ps, e, rfl⟩ := Option.map_eq_some_iff.mp h
      obtain ⟨h1, h2⟩ := lst e
      simp only [PyData.canLay0, PyData.depth]
      exact ⟨h1, by omega⟩
    | scr ds =>
      obtain ⟨ps, e, rfl⟩ := Option.map_eq_some_iff.mp h
      obtain ⟨h1, h2⟩ := lst e
      simp only [PyData.canLay0, PyData.depth]
      exact ⟨h1, by omega⟩
    | ref n =>
      dsimp only at h
      cases hS : S[n]? with
      | none => rw [hS] at h; cases h
      | some o =>
        rw [hS] at h
        cases o with
        | lst ds =>
          obtain ⟨ps, e, rfl⟩ := Option.map_eq_some_iff.mp h
          obtain ⟨h1, h2⟩ := lst e
          simp only [PyData.canLay0, PyData.depth]
          exact ⟨h1, by omega⟩
        | _ => cases h
theorem toP_shaped {S : Sto} {k : Nat} {d : D} {p : PyData} (h : toP S k d = some p) (hk : k ≤ 64) : SeqAt.shaped p = true := by
  obtain ⟨h1, h2⟩ := toP_lay k d p h
  simp only [SeqAt.shaped, h1, Bool.true_and, decide_eq_true_eq]
  omega

/-! ### operators -/
def gAdd : G2 := fun x y S => match x, y with
  | .int i, .int j => .ok (.int (i + j)) S
  | .str a, .str b => if a.length + b.length ≤ lim then .ok (.str (a ++ b)) S else .err
  | .tup a, .tup b => if a.length + b.length ≤ lim then .ok (.tup (a ++ b)) S else .err
  | .ref n, .ref m => match S[n]?, S[m]? with
    | some (.lst a), some (.lst b) => if a.length + b.length ≤ lim then .ok (.ref S.length) (S ++ [.lst (a ++ b)]) else .err
    | _, _ => .err
  | _, _ => .err
def gSub : G2 := fun x y S => match x, y with
  | .int i, .int j => .ok (.int (i - j)) S
  | _, _ => .err
def gMul : G2 := fun x y S => match x, y with
  | .int i, .int j => if i.natAbs.log2 + j.natAbs.log2 < 1000000 then .ok (.int (i * j)) S else .err
  | .ref n, .int k => match S[n]? with
    | some (.lst a) => if -(2 ^ 63) ≤ k ∧ k < 2 ^ 63 ∧ a.length * k.toNat ≤ lim then .ok (.ref S.length) (S ++ [.lst (List.replicate k.toNat a).flatten]) else .err
    | _ => .err
  | _, _ => .err
def gDiv : G2 := fun x y S => match x, y with
  | .int i, .int j => if 0 < j ∧ j.natAbs.log2 < 9000 then .ok (.int (i / j)) S else .err
  | _, _ => .err
def gMod : G2 := fun x y S => match x, y with
  | .int i, .int j => if 0 < j then .ok (.int (i % j)) S else .err
  | _, _ => .err
def gPow : G2 := fun x y S => match x, y with
  | .int i, .int j => if 0 ≤ j ∧ j ≤ 1000000 ∧ i.natAbs < 2 ^ 64 then .ok (.int (i ^ j.toNat)) S else .err
  | _, _ => .err
def gNeg : G1 := fun x S => match x with
  | .int i => .ok (.int (-i)) S
  | _ => .err
def gCmp (p : Int → Int → Bool) : G2 := fun x y S => match x, y with
  | .int i, .int j => .ok (.bl (p i j)) S
  | _, _ => .err
abbrev gLt : G2 := gCmp fun i j => decide (i < j)
abbrev gLe : G2 := gCmp fun i j => decide (i ≤ j)
abbrev gGt : G2 := gCmp fun i j => decide (j < i)
abbrev gGe : G2 := gCmp fun i j => decide (j ≤ i)
def eqD (x y : D) (S : Sto) : Option Bool := match x, y with
  | .int i, .int j => some (decide (i = j))
  | .str a, .str b => some (decide (a = b))
  | .bl a, .bl b => some (decide (a = b))
  | .non, .non => some true
  | .int _, .str _ => some false
  | .str _, .int _ => some false
  | .int _, .non => some false
  | .non, .int _ => some false
  | .str _, .non => some false
  | .non, .str _ => some false
  | .bl _, .str _ => some false
  | .str _, .bl _ => some false
  | .bl _, .non => some false
  | .non, .bl _ => some false
  | x, y => match toP S 24 x, toP S 24 y with
    | some p, some q => some (PyData.eqv p q)
    | _, _ => none
def gEq : G2 := fun x y S => match eqD x y S with
  | some b => .ok (.bl b) S
  | none => .err
def gNe : G2 := fun x y S => match eqD x y S with
  | some b => .ok (.bl (!b)) S
  | none => .err
def isNon : D → Bool
  | .non => true
  | _ => false
def gIsN : G2 := fun x y S => match y with
  | .non => .ok (.bl (isNon x)) S
  | _ => .err
def gNotN : G2 := fun x y S => match y with
  | .non => .ok (.bl (!isNon x)) S
  | _ => .err
def gIsB : G2 := fun x y S => match x, y with
  | .bl a, .bl b => .ok (.bl (decide (a = b))) S
  | _, _ => .err

section
variable {K : Fg} {mg : Mg} {X : Cx}
theorem okI0 {p : Int → Int → D} {q : Int → Int → V} (r : ∀ K ρ H i j, Rep K ρ H (q i j) (p i j)) {g : G2} (hg : ∀ x y S, g x y S = match x, y with | .int i, .int j => .ok (p i j) S | _, _ => .err) : Ok2 K mg (rI0 q) g := by
  intro W ρ H σ S x y dx dy Q s rx ry h
  rw [hg] at h
  cases dx with
  | int i =>
    cases dy with
    | int j =>
      cases rx; cases ry
      exact ⟨i, j, rfl, rfl, post_val h s (r _ _ _ _ _)⟩
    | _ => exact h.elim
  | _ => exact h.elim
theorem okSub : Ok2 K mg (rI0 fun i j => .int (i - j)) gSub := okI0 (fun _ _ _ _ _ => .int _) fun x y S => rfl
theorem okCmp {p : Int → Int → Bool} : Ok2 K mg (rI0 fun i j => .bl (p i j)) (gCmp p) := okI0 (fun _ _ _ _ _ => .bl _) fun x y S => rfl
theorem okI {C : Int → Int → Prop} {p : Int → Int → D} {q : Int → Int → V} (r : ∀ K ρ H i j, Rep K ρ H (q i j) (p i j)) {g : G2} {c : Int → Int → Prop} [∀ i j, Decidable (c i j)] (hc : ∀ i j, c i j → C i j) (hg : ∀ x y S, g x y S = match x, y with | .int i, .int j => (if c i j then .ok (p i j) S else .err) | _, _ => .err) : Ok2 K mg (rI C q) g := by
  intro W ρ H σ S x y dx dy Q s rx ry h
  rw [hg] at h
  cases dx with
  | int i =>
    cases dy with
    | int j =>
      cases rx; cases ry
      dsimp only at h
      by_cases z : c i j
      · rw [if_pos z] at h
        exact ⟨i, j, rfl, rfl, hc i j z, post_val h s (r _ _ _ _ _)⟩
      · rw [if_neg z] at h; exact h.elim
    | _ => exact h.elim
  | _ => exact h.elim
theorem okDiv : Ok2 K mg (rI CDivW fun i j => .int (i / j)) gDiv := okI (c := fun i j => 0 < j ∧ j.natAbs.log2 < 9000) (fun _ _ _ _ _ => .int _) (fun _ _ h => h) fun x y S => rfl
theorem okMod : Ok2 K mg (rI (fun _ j => 0 < j) fun i j => .int (i % j)) gMod := okI (c := fun i j => 0 < j) (fun _ _ _ _ _ => .int _) (fun _ _ h => h) fun x y S => rfl
theorem okPow : Ok2 K mg (rI CPow fun i j => .int (i ^ j.toNat)) gPow := okI (c := fun i j => 0 ≤ j ∧ j ≤ 1000000 ∧ i.natAbs < 2 ^ 64) (fun _ _ _ _ _ => .int _) (fun _ _ h => h) fun x y S => rfl
def rMul : R2 := fun x y H Q => rI CMulW (fun i j => .int (i * j)) x y H Q ∨ rRep x y H Q
theorem op_mulA : OpR X (binaryOp .Mult) rMul := OpR.or op_mulW op_rep
theorem okMul : Ok2 K mg rMul gMul := by
  intro W ρ H σ S x y dx dy Q s rx ry h
  unfold gMul at h
  split at h
  · cases rx; cases ry
    split at h
    · rename_i hc
      exact .inl ⟨_, _, rfl, rfl, hc, post_val h s (.int _)⟩
    · exact h.elim
  · rename_i n k
    cases ry
    cases rx with
    | ref hn =>
      split at h
      · rename_i a hS
        split at h
        · rename_i hc
          obtain ⟨xs, hx, l⟩ := s.ob _ _ _ hS hn
          have hl : xs.length = a.length := l.length
          have rep : ∀ m : Nat, RepL K ρ H (List.replicate m xs).flatten (List.replicate m a).flatten := by
            intro m
            induction m with
            | zero => exact .nil
            | succ m ih => rw [List.replicate_succ, List.replicate_succ, List.flatten_cons, List.flatten_cons]; exact l.append ih
          exact .inr ⟨_, k, xs, rfl, rfl, hx, hc.1, hc.2.1, by rw [lim_eq, hl]; exact hc.2.2, post_lst h s (rep _)⟩
        · exact h.elim
      · exact h.elim
  · exact h.elim
def rAddA (K : Fg) : R2 := fun x y H Q => rI0 (fun i j => .int (i + j)) x y H Q ∨ (∃ i j, x = .str i ∧ y = .str j ∧ i.length + j.length ≤ sizeLine ∧ Q (.str (i ++ j)) H) ∨ rCatA K x y H Q ∨ rCat x y H Q
theorem op_addA : OpR X (binaryOp .Add) (rAddA X.K) := OpR.or op_add (OpR.or op_add_str (OpR.or op_catA op_cat))
theorem okAdd : Ok2 K mg (rAddA K) gAdd := by
  intro W ρ H σ S x y dx dy Q s rx ry h
  unfold gAdd at h
  split at h
  · cases rx; cases ry
    exact .inl ⟨_, _, rfl, rfl, post_val h s (.int _)⟩
  · cases rx; cases ry
    split at h
    · rename_i hc
      exact .inr (.inl ⟨_, _, rfl, rfl, by rw [lim_eq]; exact hc, post_val h s (.str _)⟩)
    · exact h.elim
  · rename_i a b
    cases rx with
    | tup hx l1 =>
      cases ry with
      | tup hy l2 =>
        split at h
        · rename_i hc
          refine .inr (.inr (.inl ⟨_, _, _, _, rfl, rfl, hx, hy, by rw [lim_eq, l1.length, l2.length]; exact hc, fun e => ?_, fun e e2 => ?_, fun e e2 => post_tup h s (l1.append l2)⟩))
          · obtain rfl := l1.nil_iff.mp e
            exact post_val h s (.tup hy (by simpa using l2))
          · obtain rfl := l2.nil_iff.mp e2
            exact post_val h s (.tup hx (by simpa using l1))
        · exact h.elim
  · cases rx with
    | ref hn =>
      cases ry with
      | ref hm =>
        split at h
        · rename_i a b hS hS2
          split at h
          · rename_i hc
            obtain ⟨xs, hx, l1⟩ := s.ob _ _ _ hS hn
            obtain ⟨ys, hy, l2⟩ := s.ob _ _ _ hS2 hm
            exact .inr (.inr (.inr ⟨_, _, xs, ys, rfl, rfl, hx, hy, by rw [lim_eq, l1.length, l2.length]; exact hc, post_lst h s (l1.append l2)⟩))
          · exact h.elim
        · exact h.elim
  · exact h.elim
theorem okNeg : Ok1 K mg (rU fun i => .int (-i)) gNeg := by
  intro W ρ H σ S x dx Q s rx h
  cases dx with
  | int i => cases rx; exact ⟨i, rfl, post_val h s (.int _)⟩
  | _ => exact h.elim
/-! == -/
def rEqA (K : Fg) : R2 := fun x y H Q => rEq x y H Q ∨ rEqD K x y H Q
def rNeA (K : Fg) : R2 := fun x y H Q => rNe x y H Q ∨ rNeD K x y H Q
theorem op_eqA (hu : X.A.units + 64 < cLine) : OpR X (compareOp .Eq) (rEqA X.K) := OpR.or op_eq (op_eqD hu)
theorem op_neA (hu : X.A.units + 64 < cLine) : OpR X (compareOp .NotEq) (rNeA X.K) := OpR.or op_ne (op_neD hu)
/-- what == of two data is worth -/
inductive EqIs (K : Fg) (H : Hp) (x y : V) : Bool → Prop where
  | sc (h : scal x y = true) : EqIs K H x y (decide (x = y))
  | dp {d e : PyData} (h1 : Dp K H x d) (h2 : Dp K H y e) (h3 : SeqAt.shaped d = true) (h4 : SeqAt.shaped e = true) : EqIs K H x y (PyData.eqv d e)
theorem eqD_is {ρ : List Addr} {H : Hp} {S : Sto} {x y : V} {dx dy : D} {b : Bool} (s : SR K mg ρ H S) (rx : Rep K ρ H x dx) (ry : Rep K ρ H y dy) (h : eqD dx dy S = some b) : EqIs K H x y b := by
  have sc : ∀ {k : Bool}, scal x y = true → decide (x = y) = k → EqIs K H x y k := fun h e => e ▸ .sc h
  have deep : (match toP S 24 dx, toP S 24 dy with | some p, some q => some (PyData.eqv p q) | _, _ => none) = some b → EqIs K H x y b := fun h => by
    cases h1 : toP S 24 dx with
    | none => rw [h1] at h; cases h
    | some p =>
      cases h2 : toP S 24 dy with
      | none => rw [h1, h2] at h; cases h
      | some q =>
        rw [h1, h2] at h
        cases h
        exact .dp (dp_of s _ _ _ _ rx h1) (dp_of s _ _ _ _ ry h2) (toP_shaped h1 (by decide)) (toP_shaped h2 (by decide))
  cases rx <;> cases ry <;> first
    | (unfold eqD at h; cases h; exact sc rfl (by simp))
    | exact deep h
theorem okEq : Ok2 K mg (rEqA K) gEq := by
  intro W ρ H σ S x y dx dy Q s rx ry h
  unfold gEq at h
  split at h
  · rename_i b e
    cases eqD_is s rx ry e with
    | sc hs => exact .inl ⟨hs, post_val h s (.bl _)⟩
    | dp h1 h2 h3 h4 => exact .inr ⟨_, _, h1, h2, h3, h4, post_val h s (.bl _)⟩
  · exact h.elim
theorem okNe : Ok2 K mg (rNeA K) gNe := by
  intro W ρ H σ S x y dx dy Q s rx ry h
  unfold gNe at h
  split at h
  · rename_i b e
    cases eqD_is s rx ry e with
    | sc hs => exact .inl ⟨hs, post_val h s (.bl _)⟩
    | dp h1 h2 h3 h4 => exact .inr ⟨_, _, h1, h2, h3, h4, post_val h s (.bl _)⟩
  · exact h.elim
theorem isNon_is {ρ : List Addr} {H : Hp} {x : V} {d : D} (r : Rep K ρ H x d) : decide (x = .non) = isNon d := by cases r <;> simp [isNon]
theorem okIsN : Ok2 K mg (fun x y H Q => y = .non ∧ Q (.bl (decide (x = .non))) H) gIsN := by
  intro W ρ H σ S x y dx dy Q s rx ry h
  cases dy with
  | non => cases ry; exact ⟨rfl, by rw [isNon_is rx]; exact post_val h s (.bl _)⟩
  | _ => exact h.elim
theorem okNotN : Ok2 K mg (fun x y H Q => y = .non ∧ Q (.bl (!decide (x = .non))) H) gNotN := by
  intro W ρ H σ S x y dx dy Q s rx ry h
  cases dy with
  | non => cases ry; exact ⟨rfl, by rw [isNon_is rx]; exact post_val h s (.bl _)⟩
  | _ => exact h.elim
theorem okIsB : Ok2 K mg rIsB gIsB := by
  intro W ρ H σ S x y dx dy Q s rx ry h
  unfold gIsB at h
  split at h
  · cases rx; cases ry; exact ⟨_, _, rfl, rfl, post_val h s (.bl _)⟩
  · exact h.elim
end
end RL

namespace RL
open PySem PySem.Spec PyProof.Rows L2

/-! ### flat data -/
def flatD : D → Bool
  | .non => true
  | .bl _ => true
  | .int _ => true
  | .str _ => true
  | _ => false
def toV : D → V
  | .non => .non
  | .bl b => .bl b
  | .int i => .int i
  | .str x => .str x
  | _ => .non
/-- == of flat data -/
def eqF : D → D → Bool
  | .non, .non => true
  | .bl a, .bl b => a == b
  | .bl a, .int b => (if a then 1 else 0) == b
  | .int a, .bl b => a == (if b then 1 else 0)
  | .int a, .int b => a == b
  | .str a, .str b => a == b
  | _, _ => false
section
variable {K : Fg} {mg : Mg} {ρ : List Addr} {H : Hp}
theorem flat_toV {v : V} {d : D} (r : Rep K ρ H v d) (f : flatD d = true) : v = toV d ∧ flatV v = true := by
  cases r <;> first | exact ⟨rfl, rfl⟩ | cases f
theorem eqF_eqV {d e : D} (f : flatD d = true) (g : flatD e = true) : eqV (toV d) (toV e) = eqF d e := by
  cases d <;> first | (cases f; done) | (cases e <;> first | (cases g; done) | rfl)
theorem flat_all : ∀ {vs : List V} {ds : List D}, RepL K ρ H vs ds → ds.all flatD = true → vs = ds.map toV ∧ vs.all flatV = true
  | _, _, .nil, _ => ⟨rfl, rfl⟩
  | _, _, .cons r t, f => by
    rw [List.all_cons, Bool.and_eq_true] at f
    obtain ⟨e1, f1⟩ := flat_toV r f.1
    obtain ⟨e2, f2⟩ := flat_all t f.2
    exact ⟨by rw [List.map_cons, ← e1, ← e2], by rw [List.all_cons, f1, f2] <;> rfl⟩
theorem inV_eq {x : V} {d : D} (ex : x = toV d) (fd : flatD d = true) : ∀ {ds : List D}, ds.all flatD = true → inV x (ds.map toV) = ds.any fun e => eqF e d
  | [], _ => rfl
  | e :: ds, f => by
    rw [List.all_cons, Bool.and_eq_true] at f
    have ih := inV_eq ex fd f.2
    unfold inV at ih ⊢
    rw [List.map_cons, List.any_cons, List.any_cons, ih, ex, eqF_eqV f.1 fd]
end
/-! ### dicts -/
theorem DGet.frz {H : Hp} {a : Addr} {kvs : List (Key × V)} {k : Key} {ob : Obj} (e : H a = some (.frz ob (.dK kvs))) : DGet H a (kV k) (valV kvs k) := .inl ⟨kvs, k, .inr ⟨ob, e⟩, rfl, rfl⟩
def findK (kvs : List (D × D)) (k : D) : Option D := (kvs.find? fun p => decide (p.1 = k)).map (·.2)
def putD (kvs : List (D × D)) (k v : D) : List (D × D) := if (kvs.any fun p => decide (p.1 = k)) = true then kvs.map (fun p => if p.1 = k then (p.1, v) else p) else kvs ++ [(k, v)]
def dropD (kvs : List (D × D)) (k : D) : List (D × D) := kvs.filter fun p => decide (p.1 ≠ k)
def isKey : D → Bool
  | .int _ => true
  | .str _ => true
  | _ => false
theorem keyD_inj {a b : Key} (e : keyD a = keyD b) : a = b := by
  cases a <;> cases b <;> cases e <;> rfl
theorem keyD_iff {a b : Key} : decide (keyD a = keyD b) = decide (a = b) := by
  by_cases e : a = b
  · subst e; simp
  · rw [decide_eq_false e, decide_eq_false fun q => e (keyD_inj q)]
/-- a key's value -/
theorem key_of_rep {K : Fg} {ρ : List Addr} {H : Hp} {v : V} {d : D} (r : Rep K ρ H v d) (h : isKey d = true) : ∃ k, v = kV k ∧ d = keyD k := by
  cases r <;> first | cases h | skip
  · rename_i i; exact ⟨.inl i, rfl, rfl⟩
  · rename_i i; exact ⟨.inr i, rfl, rfl⟩
theorem rep_key {K : Fg} {ρ : List Addr} {H : Hp} (k : Key) : Rep K ρ H (kV k) (keyD k) := by
  cases k with
  | inl i => exact .int i
  | inr i => exact .str i
section
variable {K : Fg} {mg : Mg} {ρ : List Addr} {H : Hp}
theorem RepKV.find {k : Key} : ∀ {ks : List (Key × V)} {kvs : List (D × D)}, RepKV K ρ H ks kvs → (valV ks k = none ∧ findK kvs (keyD k) = none) ∨ ∃ v d, valV ks k = some v ∧ findK kvs (keyD k) = some d ∧ Rep K ρ H v d
  | _, _, .nil => .inl ⟨rfl, rfl⟩
  | _, _, .cons (k := j) (v := v) (d := d) r t => by
    by_cases e : j = k
    · subst e
      exact .inr ⟨v, d, valV_pos rfl, by simp [findK], r⟩
    · have e' : ¬ keyD j = keyD k := fun q => e (keyD_inj q)
      rcases t.find (k := k) with ⟨h1, h2⟩ | ⟨v', d', h1, h2, r'⟩
      · refine .inl ⟨by rw [valV_neg e]; exact h1, ?_⟩
        unfold findK at h2 ⊢
        rw [List.find?_cons_of_neg (by simpa using e')]
        exact h2
      · refine .inr ⟨v', d', by rw [valV_neg e]; exact h1, ?_, r'⟩
        unfold findK at h2 ⊢
        rw [List.find?_cons_of_neg (by simpa using e')]
        exact h2
theorem RepKV.any {k : Key} : ∀ {ks : List (Key × V)} {kvs : List (D × D)}, RepKV K ρ H ks kvs → (ks.any fun kv => decide (kv.1 = k)) = (kvs.any fun p => decide (p.1 = keyD k))
  | _, _, .nil => rfl
  | _, _, .cons r t => by rw [List.any_cons, List.any_cons, t.any, ← keyD_iff]
theorem RepKV.repl {k : Key} {v : V} {d : D} (r : Rep K ρ H v d) : ∀ {ks : List (Key × V)} {kvs : List (D × D)}, RepKV K ρ H ks kvs →
    RepKV K ρ H (ks.map fun kv => if kv.1 = k then (kv.1, v) else kv) (kvs.map fun p => if p.1 = keyD k then (p.1, d) else p)
  | _, _, .nil => .nil
  | _, _, .cons (k := j) q t => by
    rw [List.map_cons, List.map_cons]
    by_cases e : j = k
    · subst e
      rw [if_pos rfl, if_pos rfl]
      exact .cons r (t.repl r)
    · rw [if_neg e, if_neg fun q => e (keyD_inj q)]
      exact .cons q (t.repl r)
theorem RepKV.append : ∀ {ks ks' : List (Key × V)} {kvs kvs' : List (D × D)}, RepKV K ρ H ks kvs → RepKV K ρ H ks' kvs' → RepKV K ρ H (ks ++ ks') (kvs ++ kvs')
  | _, _, _, _, .nil, h => h
  | _, _, _, _, .cons r t, h => .cons r (RepKV.append t h)
theorem RepKV.put {k : Key} {v : V} {d : D} {ks : List (Key × V)} {kvs : List (D × D)} (h : RepKV K ρ H ks kvs) (r : Rep K ρ H v d) : RepKV K ρ H (putK ks k v) (putD kvs (keyD k) d) := by
  unfold putK putD
  rw [h.any]
  split
  · exact h.repl r
  · exact h.append (.cons r .nil)
theorem RepKV.drop {k : Key} : ∀ {ks : List (Key × V)} {kvs : List (D × D)}, RepKV K ρ H ks kvs → RepKV K ρ H (dropK ks k) (dropD kvs (keyD k))
  | _, _, .nil => .nil
  | _, _, .cons (k := j) q t => by
    have ih := t.drop (k := k)
    unfold dropK dropD at ih ⊢
    by_cases e : j = k
    · subst e
      rw [List.filter_cons_of_neg (by simp), List.filter_cons_of_neg (by simp)]
      exact ih
    · rw [List.filter_cons_of_pos (by simpa using e), List.filter_cons_of_pos (by simpa using fun q => e (keyD_inj q))]
      exact .cons q ih
theorem RepKV.length : ∀ {ks : List (Key × V)} {kvs : List (D × D)}, RepKV K ρ H ks kvs → ks.length = kvs.length
  | _, _, .nil => rfl
  | _, _, .cons _ t => by rw [List.length_cons, List.length_cons, t.length]
theorem RepKV.keys : ∀ {ks : List (Key × V)} {kvs : List (D × D)}, RepKV K ρ H ks kvs → RepL K ρ H (ks.map fun p => kV p.1) (kvs.map (·.1))
  | _, _, .nil => .nil
  | _, _, .cons (k := k) r t => .cons (rep_key k) t.keys
end

/-! ### in -/
def strIn (c z : Str) : Bool := match c.cps.toList with
  | [a] => decide (a ∈ z.cps.toList)
  | _ => !(Builtin.Str.occurrences z c 0 z.length 1).isEmpty
def listIn (x : D) (ds : List D) (S : Sto) : Option Bool :=
  if (flatD x && ds.all flatD) = true then some (ds.any fun e => eqF e x)
  else match toP S 24 x, ds.mapM (toP S 24) with
    | some p, some ps => some (ps.any fun z => PyData.eqv z p)
    | _, _ => none
def inD (x y : D) (S : Sto) : Option Bool := match y with
  | .tup ds => if (flatD x && ds.all flatD) = true then some (ds.any fun e => eqF e x) else none
  | .scr ds => listIn x ds S
  | .ref n => match S[n]? with
    | some (.lst ds) => listIn x ds S
    | some (.dict kvs) => if isKey x = true then some (findK kvs x).isSome else none
    | some (.fd kvs) => if isKey x = true then some (findK kvs x).isSome else none
    | _ => none
  | .str z => match x with
    | .str c => some (strIn c z)
    | _ => none
  | _ => none
def gIn : G2 := fun x y S => match inD x y S with
  | some b => .ok (.bl b) S
  | none => .err
def gNotIn : G2 := fun x y S => match inD x y S with
  | some b => .ok (.bl (!b)) S
  | none => .err
section
variable {K : Fg} {mg : Mg} {X : Cx}
theorem op_in_dict (hu : X.A.units + 1 < cLine) : OpR X (compareOp .In) (fun x y H Q => ∃ a o, y = .ref a ∧ DGet H a x o ∧ Q (.bl o.isSome) H) := by
  intro pins s σ H x y v u Q I rx ry h
  obtain ⟨a, o, rfl, g, q⟩ := h
  cases ry
  exact d_in hu I g rx fun s' I' => ⟨.bl _, H, I', rfl, q⟩
theorem op_notIn_dict (hu : X.A.units + 1 < cLine) : OpR X (compareOp .NotIn) (fun x y H Q => ∃ a o, y = .ref a ∧ DGet H a x o ∧ Q (.bl (!o.isSome)) H) := by
  intro pins s σ H x y v u Q I rx ry h
  obtain ⟨a, o, rfl, g, q⟩ := h
  cases ry
  exact d_notIn hu I g rx fun s' I' => ⟨.bl _, H, I', rfl, q⟩
/-- what in is worth -/
inductive InIs (K : Fg) (H : Hp) (x y : V) : Bool → Prop where
  | flat {p : Addr} {xs : List V} (h : y = .ref p) (h1 : SqL K H p xs ∨ SqT K H p xs) (h2 : flatV x = true) (h3 : xs.all flatV = true) : InIs K H x y (inV x xs)
  | deep {d : PyData} {ds : List PyData} (h1 : Dp K H x d) (h2 : Dp K H y (.list ds)) (h3 : SeqAt.shaped d = true) (h4 : SeqAt.shaped (.list ds) = true) : InIs K H x y (ds.any fun z => PyData.eqv z d)
  | dict {a : Addr} {o : Option V} (h : y = .ref a) (g : DGet H a x o) : InIs K H x y o.isSome
  | sign {c : Nat} {z : Str} (h : x = .str ⟨#[c]⟩) (h1 : y = .str z) : InIs K H x y (decide (c ∈ z.cps.toList))
  | str {i j : Str} (h : x = .str i) (h1 : y = .str j) : InIs K H x y (!(Builtin.Str.occurrences j i 0 j.length 1).isEmpty)
def rInA (K : Fg) (neg : Bool) : R2 := fun x y H Q => ∃ b, InIs K H x y b ∧ Q (.bl (if neg then !b else b)) H
theorem op_inA (hu : X.A.units + 65 < cLine) : OpR X (compareOp .In) (rInA X.K false) := by
  intro pins s σ H x y v u Q I rx ry h
  obtain ⟨b, hb, q⟩ := h
  cases hb with
  | flat h h1 h2 h3 => exact op_in_seq pins s σ H x y v u Q I rx ry ⟨_, _, h, h1, h2, h3, q⟩
  | deep h1 h2 h3 h4 => exact op_inD hu pins s σ H x y v u Q I rx ry ⟨_, _, h1, h2, h3, h4, q⟩
  | dict h g => exact op_in_dict (by omega) pins s σ H x y v u Q I rx ry ⟨_, _, h, g, q⟩
  | sign h h1 => exact op_in_sign pins s σ H x y v u Q I rx ry ⟨_, _, h, h1, q⟩
  | str h h1 => exact op_in_str pins s σ H x y v u Q I rx ry ⟨_, _, h, h1, q⟩
theorem op_notInA (hu : X.A.units + 65 < cLine) : OpR X (compareOp .NotIn) (rInA X.K true) := by
  intro pins s σ H x y v u Q I rx ry h
  obtain ⟨b, hb, q⟩ := h
  cases hb with
  | flat h h1 h2 h3 => exact op_notIn_seq pins s σ H x y v u Q I rx ry ⟨_, _, h, h1, h2, h3, q⟩
  | deep h1 h2 h3 h4 => exact op_notInD hu pins s σ H x y v u Q I rx ry ⟨_, _, h1, h2, h3, h4, q⟩
  | dict h g => exact op_notIn_dict (by omega) pins s σ H x y v u Q I rx ry ⟨_, _, h, g, q⟩
  | sign h h1 => exact op_notIn_sign pins s σ H x y v u Q I rx ry ⟨_, _, h, h1, q⟩
  | str h h1 => exact op_notIn_str pins s σ H x y v u Q I rx ry ⟨_, _, h, h1, q⟩
theorem listIn_is {ρ : List Addr} {H : Hp} {S : Sto} {x : V} {dx : D} {p : Addr} {xs : List V} {ds : List D} {b : Bool} (s : SR K mg ρ H S) (rx : Rep K ρ H x dx) (hq : SqL K H p xs) (l : RepL K ρ H xs ds) (h : listIn dx ds S = some b) : InIs K H x (.ref p) b := by
  unfold listIn at h
  split at h
  · rename_i f
    rw [Bool.and_eq_true] at f
    cases h
    obtain ⟨e1, f1⟩ := flat_toV rx f.1
    obtain ⟨e2, f2⟩ := flat_all l f.2
    have q := InIs.flat (K := K) (H := H) (x := x) (y := .ref p) rfl (.inl hq) f1 f2
    rw [e2, inV_eq e1 f.1 f.2] at q
    exact q
  · split at h
    · rename_i p' ps h1 h2
      cases h
      have e : toP S 25 (.scr ds) = some (.list ps) := by
        show (ds.mapM (toP S 24)).map PyData.list = _
        rw [h2]; rfl
      exact .deep (dp_of s _ _ _ _ rx h1) (.lst hq (dpAll_of (fun d v p r h => dp_of s 24 d v p r h) l (mapM_some h2))) (toP_shaped h1 (by decide)) (toP_shaped e (by decide))
    · cases h
theorem inD_is {ρ : List Addr} {H : Hp} {S : Sto} {x y : V} {dx dy : D} {b : Bool} (s : SR K mg ρ H S) (rx : Rep K ρ H x dx) (ry : Rep K ρ H y dy) (h : inD dx dy S = some b) : InIs K H x y b := by
  cases ry with
  | tup hq l =>
    unfold inD at h
    dsimp only at h
    split at h
    · rename_i f
      rw [Bool.and_eq_true] at f
      cases h
      obtain ⟨e1, f1⟩ := flat_toV rx f.1
      obtain ⟨e2, f2⟩ := flat_all l f.2
      have q := InIs.flat (K := K) (H := H) (x := x) rfl (.inr hq) f1 f2
      rw [e2, inV_eq e1 f.1 f.2] at q
      exact q
    · cases h
  | scr hq l => exact listIn_is s rx hq.sq l h
  | ref hn =>
    unfold inD at h
    dsimp only at h
    split at h
    · rename_i ds hS
      obtain ⟨xs, hx, l⟩ := s.ob _ _ _ hS hn
      exact listIn_is s rx (.of hx) l h
    · rename_i kvs hS
      split at h
      · rename_i hk
        cases h
        obtain ⟨k, rfl, rfl⟩ := key_of_rep rx hk
        obtain ⟨ks, hx, l⟩ := s.ob _ _ _ hS hn
        have g : DGet H _ (kV k) _ := DGet.k (k := k) hx
        rcases l.find (k := k) with ⟨h1, h2⟩ | ⟨v', d', h1, h2, _⟩
        · rw [h2]; rw [h1] at g
          exact .dict rfl g
        · rw [h2]; rw [h1] at g
          exact .dict rfl g
      · cases h
    · rename_i kvs hS
      split at h
      · rename_i hk
        cases h
        obtain ⟨k, rfl, rfl⟩ := key_of_rep rx hk
        obtain ⟨ks, ob, hx, l⟩ := s.ob _ _ _ hS hn
        have g : DGet H _ (kV k) _ := DGet.frz (k := k) hx
        rcases l.find (k := k) with ⟨h1, h2⟩ | ⟨v', d', h1, h2, _⟩
        · rw [h2]; rw [h1] at g
          exact .dict rfl g
        · rw [h2]; rw [h1] at g
          exact .dict rfl g
      · cases h
    · cases h
  | str z =>
    unfold inD at h
    dsimp only at h
    split at h
    · rename_i c
      cases h
      cases rx
      unfold strIn
      split
      · rename_i a e
        have e' : c = ⟨#[a]⟩ := by
          obtain ⟨cs⟩ := c
          have e2 : cs.toList = [a] := e
          have : cs = #[a] := by
            rw [← Array.toArray_toList (xs := cs), e2]
          rw [this]
        exact .sign (by rw [e']) rfl
      · exact .str rfl rfl
    · cases h
  | _ => cases h
theorem okIn : Ok2 K mg (rInA K false) gIn := by
  intro W ρ H σ S x y dx dy Q s rx ry h
  unfold gIn at h
  split at h
  · rename_i b e
    exact ⟨b, inD_is s rx ry e, post_val h s (.bl _)⟩
  · exact h.elim
theorem okNotIn : Ok2 K mg (rInA K true) gNotIn := by
  intro W ρ H σ S x y dx dy Q s rx ry h
  unfold gNotIn at h
  split at h
  · rename_i b e
    exact ⟨b, inD_is s rx ry e, post_val h s (.bl _)⟩
  · exact h.elim
end

/-! ### x[i] -/
def gIx : G2 := fun x y S => match x, y with
  | .tup ds, .int i => match atI ds i with
    | some d => .ok d S
    | none => .err
  | .scr ds, .int i => match atI ds i with
    | some d => .ok d S
    | none => .err
  | .str z, .int i => if z.length ≤ lim then (match atI z.cps.toList i with
    | some c => .ok (.str ⟨#[c]⟩) S
    | none => .err) else .err
  | .ref n, k => match S[n]? with
    | some (.lst ds) => match k with
      | .int i => match atI ds i with
        | some d => .ok d S
        | none => .err
      | _ => .err
    | some (.dict kvs) => if isKey k = true then (match findK kvs k with
      | some d => .ok d S
      | none => .err) else .err
    | some (.fd kvs) => if isKey k = true then (match findK kvs k with
      | some d => .ok d S
      | none => .err) else .err
    | _ => .err
  | _, _ => .err
section
variable {K : Fg} {mg : Mg} {X : Cx}
theorem RepL.atI {ρ : List Addr} {H : Hp} {xs : List V} {ds : List D} {i : Int} {d : D} (l : RepL K ρ H xs ds) (h : L2.atI ds i = some d) : ∃ v, L2.atI xs i = some v ∧ Rep K ρ H v d := by
  unfold L2.atI at h ⊢
  rw [l.length]
  obtain ⟨j, e, h⟩ := Option.bind_eq_some_iff.mp h
  obtain ⟨v, q, r⟩ := l.get h
  exact ⟨v, by rw [e]; exact q, r⟩
def rIxDi : R2 := fun x y H Q => ∃ a v, x = .ref a ∧ DGet H a y (some v) ∧ Q v H
theorem ix_dict (hu : X.A.units + 1 < cLine) : IxR X rIxDi := by
  intro value slice pins s σ H x y v u Q I rx ry h hs
  obtain ⟨a, z, rfl, g, q⟩ := h
  obtain rfl : v = Value.ref a := rx
  exact tail_any (dict_typeIs I g) PySem.F.slot_dict_getitem.lookup (d_getItem hu I g ry fun w' s' I' rw' => ⟨z, H, I', rw', q⟩) hs
def rIxA (K : Fg) : R2 := fun x y H Q => rIx K x y H Q ∨ rIxDi x y H Q
theorem ix_any (hu : X.A.units + 1 < cLine) : IxR X (rIxA X.K) := IxR.or ix_seq (ix_dict hu)
theorem okIx : Ok2 K mg (rIxA K) gIx := by
  intro W ρ H σ S x y dx dy Q s rx ry h
  unfold gIx at h
  split at h
  · cases ry
    cases rx with
    | tup hq l =>
      split at h
      · rename_i d e
        obtain ⟨v, q, r⟩ := l.atI e
        exact .inl (.inr (.inl ⟨_, _, _, v, rfl, rfl, hq, q, post_val h s r⟩))
      · exact h.elim
  · cases ry
    cases rx with
    | scr hq l =>
      split at h
      · rename_i d e
        obtain ⟨v, q, r⟩ := l.atI e
        exact .inl (.inl ⟨_, _, _, v, rfl, rfl, hq.sq, q, post_val h s r⟩)
      · exact h.elim
  · cases ry; cases rx
    split at h
    · rename_i hz
      split at h
      · rename_i c e
        exact .inl (.inr (.inr ⟨_, _, c, rfl, rfl, by rw [lim_eq]; exact hz, e, post_val h s (.str _)⟩))
      · exact h.elim
    · exact h.elim
  · cases rx with
    | ref hn =>
      split at h
      · rename_i ds hS
        obtain ⟨xs, hx, l⟩ := s.ob _ _ _ hS hn
        split at h
        · cases ry
          split at h
          · rename_i d e
            obtain ⟨v, q, r⟩ := l.atI e
            exact .inl (.inl ⟨_, _, _, v, rfl, rfl, .of hx, q, post_val h s r⟩)
          · exact h.elim
        · exact h.elim
      · rename_i kvs hS
        split at h
        · rename_i hk
          obtain ⟨k, rfl, rfl⟩ := key_of_rep ry hk
          obtain ⟨ks, hx, l⟩ := s.ob _ _ _ hS hn
          split at h
          · rename_i d e
            rcases l.find (k := k) with ⟨h1, h2⟩ | ⟨v', d', h1, h2, r⟩
            · rw [h2] at e; cases e
            · rw [h2] at e; cases e
              exact .inr ⟨_, v', rfl, by rw [← h1]; exact DGet.k (k := k) hx, post_val h s r⟩
          · exact h.elim
        · exact h.elim
      · rename_i kvs hS
        split at h
        · rename_i hk
          obtain ⟨k, rfl, rfl⟩ := key_of_rep ry hk
          obtain ⟨ks, ob, hx, l⟩ := s.ob _ _ _ hS hn
          split at h
          · rename_i d e
            rcases l.find (k := k) with ⟨h1, h2⟩ | ⟨v', d', h1, h2, r⟩
            · rw [h2] at e; cases e
            · rw [h2] at e; cases e
              exact .inr ⟨_, v', rfl, by rw [← h1]; exact DGet.frz (k := k) hx, post_val h s r⟩
          · exact h.elim
        · exact h.elim
      · exact h.elim
  · exact h.elim
end

/-! ### slices -/
def cutD (xs : List D) (lo hi : Option Int) : List D := (xs.drop (HT.sIx xs.length 0 lo)).take (HT.sIx xs.length xs.length hi - HT.sIx xs.length 0 lo)
def gSl : GS := fun x lo hi S => match x with
  | .tup ds => .ok (.tup (cutD ds lo hi)) S
  | .scr ds => .ok (.ref S.length) (S ++ [.lst (cutD ds lo hi)])
  | .str z => if z.length ≤ lim then .ok (.str (cutS z lo hi)) S else .err
  | .ref n => match S[n]? with
    | some (.lst ds) => .ok (.ref S.length) (S ++ [.lst (cutD ds lo hi)])
    | _ => .err
  | _ => .err
section
variable {K : Fg} {mg : Mg} {X : Cx}
def rSlAll (K : Fg) : V → Option Int → Option Int → Hp → VK → Prop := fun x lo hi H Q => rSlA K x lo hi H Q ∨ rSlL K x lo hi H Q ∨ rSlS x lo hi H Q
theorem sl_all : SlR X (rSlAll X.K) := SlR.or sl_tupA (SlR.or sl_list sl_str)
theorem RepL.cut {ρ : List Addr} {H : Hp} {xs : List V} {ds : List D} (l : RepL K ρ H xs ds) (lo hi : Option Int) : RepL K ρ H (cutV xs lo hi) (cutD ds lo hi) := by
  unfold cutV cutD
  rw [l.length]
  exact (l.drop _).take _
theorem okSl : OkS K mg (rSlAll K) gSl := by
  intro W ρ H σ S x dx lo hi Q s rx h
  unfold gSl at h
  split at h
  · rename_i ds
    cases rx with
    | tup hq l =>
      refine .inl ⟨_, _, rfl, hq, fun e => ?_, fun e => post_tup h s (l.cut lo hi)⟩
      rw [l.length] at e
      have e' : cutD ds lo hi = ds := by
        unfold cutD
        rw [e.1, e.2]
        simp
      rw [e'] at h
      exact post_val h s (.tup hq l)
  · cases rx with
    | scr hq l => exact .inr (.inl ⟨_, _, rfl, hq.sq, post_lst h s (l.cut lo hi)⟩)
  · cases rx
    split at h
    · rename_i hz
      exact .inr (.inr ⟨_, rfl, by rw [lim_eq]; exact hz, post_val h s (.str _)⟩)
    · exact h.elim
  · cases rx with
    | ref hn =>
      split at h
      · rename_i ds hS
        obtain ⟨xs, hx, l⟩ := s.ob _ _ _ hS hn
        exact .inr (.inl ⟨_, _, rfl, .of hx, post_lst h s (l.cut lo hi)⟩)
      · exact h.elim
  · exact h.elim
end
end RL

namespace RL
open PySem PySem.Spec PyProof.Rows L2

section
variable {K : Fg} {mg : Mg} {raw : List (Nat × V)} {W : WX} {ρ : List Addr} {H : Hp} {σ : L2.St} {S : Sto}
/-- an object is written -/
theorem post_set {n : Nat} {a : Addr} {ho : HO} {o' : O} {d : D} {v : V} {Q : V → Hp → Prop} (h : Post K mg W ρ H σ (Rep K) (.ok d (S.set n o')) Q) (s : SR K mg ρ H S) (ha : ρ[n]? = some a)
    (r : ORep K mg ρ (upd H a ho) a o') (rv : Rep K ρ (upd H a ho) v d) (hm : ∃ u, H a = some u ∧ Mut (some u) := by (apply Exists.intro; apply And.intro; assumption; trivial)) : Q v (upd H a ho) :=
  h v ρ _ (stp_write (List.mem_of_getElem? ha) hm) (s.write ha hm r) rv
theorem wr {n : Nat} {a : Addr} {ho : HO} (s : SR K mg ρ H S) (ha : ρ[n]? = some a) (hm : ∃ u, H a = some u ∧ Mut (some u) := by (apply Exists.intro; apply And.intro; assumption; trivial)) : Stp ρ H ρ (upd H a ho) := stp_write (List.mem_of_getElem? ha) hm
/-- a new list, seen from a list of the same things -/
theorem post_new {o : O} {ho : HO} {Q : V → Hp → Prop} (h : Post K mg W ρ H σ (Rep K) (.ok (.ref S.length) (S ++ [o])) Q) (s : SR K mg ρ H S) {p : Addr} (hp : H p = none) (r : ORep K mg (ρ ++ [p]) (upd H p ho) p o) : Q (.ref p) (upd H p ho) :=
  h (.ref p) (ρ ++ [p]) _ (stp_new hp) (s.new hp r) (rep_new s)
end

/-! ### len, abs, int, str, min, max, sum, all -/
def gLen : GA := fun xs S => match xs with
  | [.tup ds] => .ok (.int ds.length) S
  | [.scr ds] => .ok (.int ds.length) S
  | [.str z] => if z.length ≤ lim then .ok (.int z.length) S else .err
  | [.ref n] => match S[n]? with
    | some (.lst ds) => .ok (.int ds.length) S
    | some (.dict kvs) => .ok (.int kvs.length) S
    | _ => .err
  | _ => .err
def gAbs : GA := fun xs S => match xs with
  | [.int i] => .ok (.int (if i < 0 then -i else i)) S
  | _ => .err
def gInt : GA := fun xs S => match xs with
  | [.int i] => .ok (.int i) S
  | [.bl b] => .ok (.int (if b then 1 else 0)) S
  | [.str a] => match PySem.intText? a with
    | some n => if a.length ≤ 640 then .ok (.int n) S else .err
    | none => .err
  | _ => .err
def gStr : GA := fun xs S => match xs with
  | [.int i] => if i.natAbs.log2 < 1920 then .ok (.str (toString i)) S else .err
  | [.str a] => .ok (.str a) S
  | _ => .err
def gMax2 : GA := fun xs S => match xs with
  | [.int i, .int j] => .ok (.int (if j > i then j else i)) S
  | _ => .err
def gMin2 : GA := fun xs S => match xs with
  | [.int i, .int j] => .ok (.int (if j < i then j else i)) S
  | _ => .err
def intsOf : List D → Option (List Int)
  | [] => some []
  | .int i :: r => (intsOf r).map (i :: ·)
  | _ :: _ => none
def blsOf : List D → Option (List Bool)
  | [] => some []
  | .bl i :: r => (blsOf r).map (i :: ·)
  | _ :: _ => none
def strsOf : List D → Option (List Str)
  | [] => some []
  | .str i :: r => (strsOf r).map (i :: ·)
  | _ :: _ => none
theorem intsOf_eq : ∀ {ds : List D} {ns : List Int}, intsOf ds = some ns → ds = ns.map D.int
  | [], _, h => by cases h; rfl
  | .int i :: r, ns, h => by
    obtain ⟨m, e, rfl⟩ := Option.map_eq_some_iff.mp h
    rw [List.map_cons, ← intsOf_eq e]
  | .non :: _, _, h | .bl _ :: _, _, h | .str _ :: _, _, h | .tup _ :: _, _, h | .scr _ :: _, _, h | .ref _ :: _, _, h => by cases h
theorem blsOf_eq : ∀ {ds : List D} {ns : List Bool}, blsOf ds = some ns → ds = ns.map D.bl
  | [], _, h => by cases h; rfl
  | .bl i :: r, ns, h => by
    obtain ⟨m, e, rfl⟩ := Option.map_eq_some_iff.mp h
    rw [List.map_cons, ← blsOf_eq e]
  | .non :: _, _, h | .int _ :: _, _, h | .str _ :: _, _, h | .tup _ :: _, _, h | .scr _ :: _, _, h | .ref _ :: _, _, h => by cases h
theorem strsOf_eq : ∀ {ds : List D} {ns : List Str}, strsOf ds = some ns → ds = ns.map D.str
  | [], _, h => by cases h; rfl
  | .str i :: r, ns, h => by
    obtain ⟨m, e, rfl⟩ := Option.map_eq_some_iff.mp h
    rw [List.map_cons, ← strsOf_eq e]
  | .non :: _, _, h | .int _ :: _, _, h | .bl _ :: _, _, h | .tup _ :: _, _, h | .scr _ :: _, _, h | .ref _ :: _, _, h => by cases h
/-- the items of a list that is read -/
def itemsL (x : D) (S : Sto) : Option (List D) := match x with
  | .scr ds => some ds
  | .ref n => match S[n]? with
    | some (.lst ds) => some ds
    | _ => none
  | _ => none
theorem itemsL_is {K : Fg} {mg : Mg} {ρ : List Addr} {H : Hp} {S : Sto} {x : V} {dx : D} {ds : List D} (s : SR K mg ρ H S) (r : Rep K ρ H x dx) (h : itemsL dx S = some ds) : ∃ a xs, x = .ref a ∧ SqL K H a xs ∧ RepL K ρ H xs ds := by
  cases r with
  | scr hq l => cases h; exact ⟨_, _, rfl, hq.sq, l⟩
  | ref hn =>
    unfold itemsL at h
    dsimp only at h
    split at h
    · rename_i ds' hS
      cases h
      obtain ⟨xs, hx, l⟩ := s.ob _ _ _ hS hn
      exact ⟨_, xs, rfl, .of hx, l⟩
    · cases h
  | _ => cases h
def gSum : GA := fun xs S => match xs with
  | [x] => match (itemsL x S).bind intsOf with
    | some ns => .ok (.int ns.sum) S
    | none => .err
  | _ => .err
def gAll : GA := fun xs S => match xs with
  | [x] => match (itemsL x S).bind blsOf with
    | some ns => .ok (.bl (ns.all id)) S
    | none => .err
  | _ => .err
def maxI (a : Int) (l : List Int) : Int := l.foldl (fun m x => if x > m then x else m) a
def minI (a : Int) (l : List Int) : Int := l.foldl (fun m x => if x < m then x else m) a
theorem maxI_spec : ∀ (l : List Int) (a : Int), (maxI a l = a ∨ maxI a l ∈ l) ∧ a ≤ maxI a l ∧ ∀ x ∈ l, x ≤ maxI a l
  | [], a => ⟨.inl rfl, Int.le_refl _, fun _ h => nomatch h⟩
  | b :: l, a => by
    have e : maxI a (b :: l) = maxI (if b > a then b else a) l := rfl
    rw [e]
    obtain ⟨h1, h2, h3⟩ := maxI_spec l (if b > a then b else a)
    have q : a ≤ (if b > a then b else a) ∧ b ≤ (if b > a then b else a) ∧ ((if b > a then b else a) = a ∨ (if b > a then b else a) = b) := by split <;> omega
    refine ⟨?_, by omega, fun x hx => ?_⟩
    · rcases h1 with h1 | h1
      · rcases q.2.2 with z | z
        · rw [h1]; exact .inl z
        · rw [h1, z]; exact .inr (List.mem_cons_self ..)
      · exact .inr (List.mem_cons_of_mem _ h1)
    · rcases List.mem_cons.mp hx with rfl | hx
      · omega
      · exact h3 x hx
theorem minI_spec : ∀ (l : List Int) (a : Int), (minI a l = a ∨ minI a l ∈ l) ∧ minI a l ≤ a ∧ ∀ x ∈ l, minI a l ≤ x
  | [], a => ⟨.inl rfl, Int.le_refl _, fun _ h => nomatch h⟩
  | b :: l, a => by
    have e : minI a (b :: l) = minI (if b < a then b else a) l := rfl
    rw [e]
    obtain ⟨h1, h2, h3⟩ := minI_spec l (if b < a then b else a)
    have q : (if b < a then b else a) ≤ a ∧ (if b < a then b else a) ≤ b ∧ ((if b < a then b else a) = a ∨ (if b < a then b else a) = b) := by split <;> omega
    refine ⟨?_, by omega, fun x hx => ?_⟩
    · rcases h1 with h1 | h1
      · rcases q.2.2 with z | z
        · rw [h1]; exact .inl z
        · rw [h1, z]; exact .inr (List.mem_cons_self ..)
      · exact .inr (List.mem_cons_of_mem _ h1)
    · rcases List.mem_cons.mp hx with rfl | hx
      · omega
      · exact h3 x hx
def gMax1 : GA := fun xs S => match xs with
  | [x] => match (itemsL x S).bind intsOf with
    | some (a :: l) => .ok (.int (maxI a l)) S
    | _ => .err
  | _ => .err
def gMin1 : GA := fun xs S => match xs with
  | [x] => match (itemsL x S).bind intsOf with
    | some (a :: l) => .ok (.int (minI a l)) S
    | _ => .err
  | _ => .err
section
variable {K : Fg} {mg : Mg} {X : Cx}
def rLenA (K : Fg) : List V → Hp → VK → Prop := fun xs H Q => (∃ x n, xs = [x] ∧ LenV K x H n ∧ Q (.int n) H) ∨ ∃ a kvs, xs = [.ref a] ∧ Rd H a (.dK kvs) ∧ Q (.int kvs.length) H
theorem call_lenA : CallR X (.builtin "len") (rLenA X.K) := CallR.or call_len fun pins s σ H xs us Q I r h => by
  obtain ⟨a, kvs, rfl, e, q⟩ := h
  rw [Vals.ref1 r]
  exact d_len I e fun t s' I' => ⟨.int _, H, I', ⟨t, rfl⟩, q⟩
theorem okLen : OkA K mg (rLenA K) gLen := by
  intro W ρ H σ S xs ds Q s r h
  unfold gLen at h
  split at h
  · cases r with
    | cons r t =>
      cases t
      cases r with
      | tup hq l => exact .inl ⟨_, _, rfl, .inr ⟨_, hq, l.length.symm⟩, post_val h s (.int _)⟩
  · cases r with
    | cons r t =>
      cases t
      cases r with
      | scr hq l => exact .inl ⟨_, _, rfl, .inl ⟨_, hq.sq, l.length.symm⟩, post_val h s (.int _)⟩
  · cases r with
    | cons r t =>
      cases t; cases r
      split at h
      · rename_i hz
        exact .inl ⟨_, _, rfl, ⟨by rw [lim_eq]; exact hz, rfl⟩, post_val h s (.int _)⟩
      · exact h.elim
  · cases r with
    | cons r t =>
      cases t
      cases r with
      | ref hn =>
        split at h
        · rename_i ds hS
          obtain ⟨xs, hx, l⟩ := s.ob _ _ _ hS hn
          exact .inl ⟨_, _, rfl, .inl ⟨_, .of hx, l.length.symm⟩, post_val h s (.int _)⟩
        · rename_i ds hS
          obtain ⟨xs, hx, l⟩ := s.ob _ _ _ hS hn
          exact .inr ⟨_, _, rfl, .inl hx, by rw [l.length]; exact post_val h s (.int _)⟩
        · exact h.elim
  · exact h.elim
theorem okAbs : OkA K mg (fun xs H Q => ∃ i, xs = [.int i] ∧ Q (.int (if i < 0 then -i else i)) H) gAbs := by
  intro W ρ H σ S xs ds Q s r h
  unfold gAbs at h
  split at h
  · cases r with
    | cons r t => cases t; cases r; exact ⟨_, rfl, post_val h s (.int _)⟩
  · exact h.elim
def rInt : List V → Hp → VK → Prop := fun xs H Q => ((∃ i, xs = [.int i] ∧ Q (.int i) H) ∨ ∃ k, xs = [.bl k] ∧ Q (.int (if k then 1 else 0)) H) ∨ ∃ a n, xs = [.str a] ∧ PySem.intText? a = some n ∧ a.length ≤ 640 ∧ Q (.int n) H
theorem call_intA : CallR X (.type "int") rInt := CallR.or call_int1 call_int_str
theorem okInt : OkA K mg rInt gInt := by
  intro W ρ H σ S xs ds Q s r h
  unfold gInt at h
  split at h
  · cases r with
    | cons r t => cases t; cases r; exact .inl (.inl ⟨_, rfl, post_val h s (.int _)⟩)
  · cases r with
    | cons r t => cases t; cases r; exact .inl (.inr ⟨_, rfl, post_val h s (.int _)⟩)
  · cases r with
    | cons r t =>
      cases t; cases r
      split at h
      · rename_i n e
        split at h
        · rename_i hz
          exact .inr ⟨_, n, rfl, e, hz, post_val h s (.int _)⟩
        · exact h.elim
      · exact h.elim
  · exact h.elim
def rStr : List V → Hp → VK → Prop := fun xs H Q => (∃ i, xs = [.int i] ∧ i.natAbs.log2 < 1920 ∧ Q (.str (toString i)) H) ∨ ∃ a, xs = [.str a] ∧ Q (.str a) H
theorem call_strA : CallR X (.type "str") rStr := CallR.or call_str_int SkE.call_str_str
theorem okStr : OkA K mg rStr gStr := by
  intro W ρ H σ S xs ds Q s r h
  unfold gStr at h
  split at h
  · cases r with
    | cons r t =>
      cases t; cases r
      split at h
      · rename_i hz
        exact .inl ⟨_, rfl, hz, post_val h s (.str _)⟩
      · exact h.elim
  · cases r with
    | cons r t => cases t; cases r; exact .inr ⟨_, rfl, post_val h s (.str _)⟩
  · exact h.elim
theorem okMax2 : OkA K mg (fun xs H Q => ∃ i j, xs = [.int i, .int j] ∧ Q (.int (if j > i then j else i)) H) gMax2 := by
  intro W ρ H σ S xs ds Q s r h
  unfold gMax2 at h
  split at h
  · cases r with
    | cons r t =>
      cases t with
      | cons r2 t => cases t; cases r; cases r2; exact ⟨_, _, rfl, post_val h s (.int _)⟩
  · exact h.elim
theorem okMin2 : OkA K mg (fun xs H Q => ∃ i j, xs = [.int i, .int j] ∧ Q (.int (if j < i then j else i)) H) gMin2 := by
  intro W ρ H σ S xs ds Q s r h
  unfold gMin2 at h
  split at h
  · cases r with
    | cons r t =>
      cases t with
      | cons r2 t => cases t; cases r; cases r2; exact ⟨_, _, rfl, post_val h s (.int _)⟩
  · exact h.elim
theorem ints_of_items {ρ : List Addr} {H : Hp} {S : Sto} {x : V} {dx : D} {ns : List Int} (s : SR K mg ρ H S) (r : Rep K ρ H x dx) (h : (itemsL dx S).bind intsOf = some ns) : ∃ a, x = .ref a ∧ SqL K H a (ns.map V.int) := by
  obtain ⟨ds, e1, e2⟩ := Option.bind_eq_some_iff.mp h
  obtain ⟨a, xs, rfl, hq, l⟩ := itemsL_is s r e1
  obtain rfl := intsOf_eq e2
  obtain rfl := l.ints
  exact ⟨a, rfl, hq⟩
theorem okSum : OkA K mg (rSum K) gSum := by
  intro W ρ H σ S xs ds Q s r h
  unfold gSum at h
  split at h
  · cases r with
    | cons r t =>
      cases t
      split at h
      · rename_i ns e
        obtain ⟨a, rfl, hq⟩ := ints_of_items s r e
        exact ⟨a, ns, rfl, hq, post_val h s (.int _)⟩
      · exact h.elim
  · exact h.elim
theorem okAll : OkA K mg (rAll K) gAll := by
  intro W ρ H σ S xs ds Q s r h
  unfold gAll at h
  split at h
  · cases r with
    | cons r t =>
      cases t
      split at h
      · rename_i ns e
        obtain ⟨ds, e1, e2⟩ := Option.bind_eq_some_iff.mp e
        obtain ⟨a, xs, rfl, hq, l⟩ := itemsL_is s r e1
        obtain rfl := blsOf_eq e2
        obtain rfl := l.bls
        exact ⟨a, ns, rfl, hq, post_val h s (.bl _)⟩
      · exact h.elim
  · exact h.elim
theorem okMax1 : OkA K mg (rMax K) gMax1 := by
  intro W ρ H σ S xs ds Q s r h
  unfold gMax1 at h
  split at h
  · cases r with
    | cons r t =>
      cases t
      split at h
      · rename_i b l e
        obtain ⟨a, rfl, hq⟩ := ints_of_items s r e
        refine ⟨a, b :: l, rfl, hq, by simp, fun m hm hy => ?_⟩
        obtain ⟨h1, h2, h3⟩ := maxI_spec l b
        have hin : maxI b l ∈ b :: l := h1.elim (fun z => by rw [z]; exact List.mem_cons_self ..) (List.mem_cons_of_mem _)
        have e1 := hy _ hin
        have e2 : m ≤ maxI b l := (List.mem_cons.mp hm).elim (fun z => by rw [z]; exact h2) (h3 m)
        rw [Int.le_antisymm e2 e1]
        exact post_val h s (.int _)
      · exact h.elim
  · exact h.elim
theorem okMin1 : OkA K mg (rMin K) gMin1 := by
  intro W ρ H σ S xs ds Q s r h
  unfold gMin1 at h
  split at h
  · cases r with
    | cons r t =>
      cases t
      split at h
      · rename_i b l e
        obtain ⟨a, rfl, hq⟩ := ints_of_items s r e
        refine ⟨a, b :: l, rfl, hq, by simp, fun m hm hy => ?_⟩
        obtain ⟨h1, h2, h3⟩ := minI_spec l b
        have hin : minI b l ∈ b :: l := h1.elim (fun z => by rw [z]; exact List.mem_cons_self ..) (List.mem_cons_of_mem _)
        have e1 := hy _ hin
        have e2 : minI b l ≤ m := (List.mem_cons.mp hm).elim (fun z => by rw [z]; exact h2) (h3 m)
        rw [Int.le_antisymm e1 e2]
        exact post_val h s (.int _)
      · exact h.elim
  · exact h.elim
end

/-! ### list(x), tuple(x), dict(pairs) -/
/-- the items of what may be gone through at once -/
def itemsS (x : D) (S : Sto) : Option (List D) := match x with
  | .tup ds => some ds
  | x => itemsL x S
theorem itemsS_is {K : Fg} {mg : Mg} {ρ : List Addr} {H : Hp} {S : Sto} {x : V} {dx : D} {ds : List D} (s : SR K mg ρ H S) (r : Rep K ρ H x dx) (h : itemsS dx S = some ds) : ∃ a xs, x = .ref a ∧ (SqL K H a xs ∨ SqT K H a xs) ∧ RepL K ρ H xs ds := by
  cases r with
  | tup hq l => cases h; exact ⟨_, _, rfl, .inr hq, l⟩
  | scr hq l =>
    obtain ⟨a, xs, e, q, l⟩ := itemsL_is s (.scr hq l) h
    exact ⟨a, xs, e, .inl q, l⟩
  | ref hn =>
    obtain ⟨a, xs, e, q, l⟩ := itemsL_is s (.ref hn) h
    exact ⟨a, xs, e, .inl q, l⟩
  | _ => cases h
def gList : GA := fun xs S => match xs with
  | [x] => match itemsS x S with
    | some ds => .ok (.ref S.length) (S ++ [.lst ds])
    | none => .err
  | _ => .err
def gTuple : GA := fun xs S => match xs with
  | [x] => match itemsS x S with
    | some ds => .ok (.tup ds) S
    | none => .err
  | _ => .err
section
variable {K : Fg} {mg : Mg} {X : Cx}
theorem okList : OkA K mg (fun xs H Q => ∃ p ys, xs = [.ref p] ∧ (SqL K H p ys ∨ SqT K H p ys) ∧ ∀ l, H l = none → Q (.ref l) (upd H l (.lst ys))) gList := by
  intro W ρ H σ S xs ds Q s r h
  unfold gList at h
  split at h
  · cases r with
    | cons r t =>
      cases t
      split at h
      · rename_i ds e
        obtain ⟨a, xs, rfl, hq, l⟩ := itemsS_is s r e
        exact ⟨a, xs, rfl, hq, post_lst h s l⟩
      · exact h.elim
  · exact h.elim
theorem okTuple : OkA K mg (fun xs H Q => ∃ p ys, xs = [.ref p] ∧ ((SqL K H p ys ∧ ∀ l, H l = none → Q (.ref l) (upd H l (.tup ys))) ∨ (SqT K H p ys ∧ Q (.ref p) H))) gTuple := by
  intro W ρ H σ S xs ds Q s r h
  unfold gTuple at h
  split at h
  · cases r with
    | cons r t =>
      cases t
      split at h
      · rename_i ds e
        obtain ⟨a, xs, rfl, hq, l⟩ := itemsS_is s r e
        refine ⟨a, xs, rfl, ?_⟩
        rcases hq with hq | hq
        · exact .inl ⟨hq, post_tup h s l⟩
        · exact .inr ⟨hq, post_val h s (.tup hq l)⟩
      · exact h.elim
  · exact h.elim
end
/-- the pairs of a list of pairs with keys that are numbers or texts -/
def pairsOf : List D → Option (List (D × D))
  | [] => some []
  | .tup [k, v] :: r => if isKey k = true then (pairsOf r).map ((k, v) :: ·) else none
  | _ :: _ => none
def mergeD (kvs more : List (D × D)) : List (D × D) := more.foldl (fun acc p => putD acc p.1 p.2) kvs
def gDict : GA := fun xs S => match xs with
  | [x] => match (itemsL x S).bind pairsOf with
    | some ps => .ok (.ref S.length) (S ++ [.dict (mergeD [] ps)])
    | none => .err
  | _ => .err
section
variable {K : Fg} {mg : Mg} {X : Cx} {ρ : List Addr} {H : Hp}
theorem RepKV.merge {ms : List (Key × V)} {mds : List (D × D)} (q : RepKV K ρ H ms mds) : ∀ {ks : List (Key × V)} {kvs : List (D × D)}, RepKV K ρ H ks kvs → RepKV K ρ H (mergeK ks ms) (mergeD kvs mds) := by
  induction q with
  | nil => exact fun h => h
  | cons r t ih => exact fun h => ih (h.put r)
theorem pairs_rep : ∀ {ds : List D} {xs : List V} {ps : List (D × D)}, RepL K ρ H xs ds → pairsOf ds = some ps →
    ∃ (as : List Addr) (kvs : List (Key × V)), xs = as.map V.ref ∧ Paired (fun p kv => SqT K H p [kV kv.1, kv.2]) as kvs ∧ RepKV K ρ H kvs ps
  | _, _, _, .nil, h => by cases h; exact ⟨[], [], rfl, .nil, .nil⟩
  | _, _, ps, .cons (d := d) r t, h => by
    unfold pairsOf at h
    split at h
    · rename_i e; cases e
    · rename_i k v rr e
      cases e
      split at h
      · rename_i hk
        obtain ⟨ps', e2, rfl⟩ := Option.map_eq_some_iff.mp h
        obtain ⟨as, kvs, rfl, hp, hr⟩ := pairs_rep t e2
        cases r with
        | tup hq l =>
          cases l with
          | cons rk l =>
            cases l with
            | cons rv l =>
              cases l
              obtain ⟨kk, rfl, rfl⟩ := key_of_rep rk hk
              exact ⟨_ :: as, (kk, _) :: kvs, rfl, .cons hq hp, .cons rv hr⟩
      · cases h
    · cases h
theorem okDict : OkA K mg (fun xs H Q => ∃ (a : Addr) (ps : List Addr) (kvs : List (Key × V)), xs = [.ref a] ∧ SqL K H a (ps.map V.ref) ∧ Paired (fun p kv => SqT K H p [kV kv.1, kv.2]) ps kvs ∧
    ∀ p, H p = none → Q (.ref p) (upd H p (.dK (mergeK [] kvs)))) gDict := by
  intro W ρ H σ S xs ds Q s r h
  unfold gDict at h
  split at h
  · cases r with
    | cons r t =>
      cases t
      split at h
      · rename_i ps e
        obtain ⟨ds, e1, e2⟩ := Option.bind_eq_some_iff.mp e
        obtain ⟨a, xs, rfl, hq, l⟩ := itemsL_is s r e1
        obtain ⟨as, kvs, rfl, hp, hr⟩ := pairs_rep l e2
        exact ⟨a, as, kvs, rfl, hq, hp, fun p hn => post_new h s hn ⟨_, upd_same, (RepKV.merge hr .nil).mono (stp_new hn)⟩⟩
      · exact h.elim
  · exact h.elim
end

/-! ### isinstance(x, T) for a built-in type -/
def tyD (x : D) (S : Sto) : Option String := match x with
  | .non => some "NoneType"
  | .bl _ => some "bool"
  | .int _ => some "int"
  | .str _ => some "str"
  | .tup _ => some "tuple"
  | .scr _ => some "list"
  | .ref n => match S[n]? with
    | some (.lst _) => some "list"
    | some (.dict _) => some "dict"
    | _ => none
def isiT (t T : String) : Bool := t == T || (t == "bool" && T == "int")
def gIsi (T : String) : G1 := fun x S => match tyD x S with
  | some t => .ok (.bl (isiT t T)) S
  | none => .err
theorem kitB_is : ∀ t ∈ ["NoneType", "bool", "int", "str", "tuple", "list", "dict"], ∀ T ∈ ["int", "bool", "str", "tuple", "list", "dict"], kitB t T = some (isiT t T) := by decide +kernel
theorem tyD_mem {x : D} {S : Sto} {t : String} (h : tyD x S = some t) : t ∈ ["NoneType", "bool", "int", "str", "tuple", "list", "dict"] := by
  unfold tyD at h
  split at h <;> try (cases h; decide)
  split at h
  · cases h; decide
  · cases h; decide
  · cases h
theorem tyD_is {K : Fg} {mg : Mg} {ρ : List Addr} {H : Hp} {S : Sto} {x : V} {dx : D} {t : String} (s : SR K mg ρ H S) (r : Rep K ρ H x dx) (h : tyD dx S = some t) : TyX K H x (.type t) := by
  cases r with
  | non => cases h; exact .base .non
  | bl b => cases h; exact .base (.bl b)
  | int b => cases h; exact .base (.int b)
  | str b => cases h; exact .base (.str b)
  | tup hq l =>
    cases h
    rcases hq with (hq | ⟨o, hq⟩) | ⟨o, _, _, hk, hc, _⟩
    · exact .base (.tup hq)
    · exact .fTuple hq
    · exact .kTuple hk hc
  | scr hq l =>
    cases h
    rcases hq with ⟨o, hq⟩ | ⟨o, _, _, hk, hc, _⟩
    · exact .base (.frz hq)
    · exact .kList hk hc
  | ref hn =>
    unfold tyD at h
    dsimp only at h
    split at h
    · rename_i ds hS
      cases h
      obtain ⟨xs, hx, l⟩ := s.ob _ _ _ hS hn
      exact .base (.lst hx)
    · rename_i ds hS
      cases h
      obtain ⟨xs, hx, l⟩ := s.ob _ _ _ hS hn
      exact .base (.dK hx)
    · cases h
section
variable {X : Cx} {raw : List (Nat × V)} {W : WX} {pos p p2 : Pos} {a : Expr} {fa : DE} {x : Str} {T : String}
theorem ex_isi (hT : T ∈ ["int", "bool", "str", "tuple", "list", "dict"]) (hg : Gl X "isinstance") (hm : X.mg "isinstance" = none) (hg2 : Gl X x) (hm2 : X.mg x = none) (hv : bootBuiltins x = some (.type T)) (ha : EX X raw W a fa)
    (hn : x ≠ "__name__" := by decide) (hdb : (x == ("__debug__" : Str)) = false := by decide)
    (hs : starEach [a, .Name x p2] X.env = (false, eval a X.env) :: starEach [.Name x p2] X.env := by rfl) (hpl : (backTo pos (starEach [.Name x p2] X.env)).any (·.1) = false := by rfl) :
    EX X raw W (.Call (.Name "isinstance" p) [a, .Name x p2] [] pos) (dUn (gIsi T) fa) := by
  refine PE.imp (pe_callB call_isi hg hm (by decide +kernel) (pa_cons ha (pa_cons (pe_bltn hg2 hm2 hv (v := .ty T) rfl hn hdb) pa_nil) hs) (he := hs) (hpl := hpl)) fun σ H Q ⟨ρ, env, S, e, s, h⟩ => ?_
  refine tG_bind e s h fun d S1 v ρ1 H1 st e1 s1 r1 h1 => ?_
  unfold gIsi at h1
  split at h1
  · rename_i t et
    exact ⟨v, .ty T, .type t, .type T, isiT t T, rfl, .ty T, tyD_is s1 r1 et, kit_ty (kitB_is t (tyD_mem et) T hT), post_val h1 s1 (.bl _)⟩
  · exact h1.elim
end

/-! ### methods of built-in types -/
abbrev GM := D → List D → Sto → R D
def tyOk (T : String) (x : D) (S : Sto) : Bool := match x with
  | .str _ => T == "str"
  | .scr _ => T == "list"
  | .ref n => match S[n]? with
    | some (.lst _) => T == "list"
    | some (.dict _) => T == "dict"
    | _ => false
  | _ => false
def dMt (T : String) (g : GM) (fo : DE) (fs : DA) : DE := fun env S => (fo env S).bind fun x S1 => if tyOk T x S1 = true then (fs env S1).bind fun xs S2 => g x xs S2 else .err
def dMt0 (T : String) (g : GM) (fo : DE) : DE := fun env S => (fo env S).bind fun x S1 => if tyOk T x S1 = true then g x [] S1 else .err
def OkM (K : Fg) (mg : Mg) (r : V → List V → Hp → VK → Prop) (g : GM) : Prop := ∀ (W : WX) (ρ : List Addr) (H : Hp) (σ : L2.St) (S : Sto) (x : V) (dx : D) (xs : List V) (ds : List D) (Q : V → Hp → Prop),
  SR K mg ρ H S → Rep K ρ H x dx → RepL K ρ H xs ds → Post K mg W ρ H σ (Rep K) (g dx ds S) Q → r x xs H Q
theorem tyOk_is {K : Fg} {mg : Mg} {ρ : List Addr} {H : Hp} {S : Sto} {x : V} {dx : D} {T : String} (s : SR K mg ρ H S) (r : Rep K ρ H x dx) (h : tyOk T dx S = true) : tyV K T x H := by
  cases r with
  | str z => exact beq_iff_eq.mp h
  | scr hq l => exact .inl ⟨beq_iff_eq.mp h, _, hq.sq⟩
  | ref hn =>
    unfold tyOk at h
    dsimp only at h
    split at h
    · rename_i ds hS
      obtain ⟨xs, hx, l⟩ := s.ob _ _ _ hS hn
      exact .inl ⟨beq_iff_eq.mp h, _, .of hx⟩
    · rename_i ds hS
      obtain ⟨xs, hx, l⟩ := s.ob _ _ _ hS hn
      exact .inr (.inr (.inl ⟨beq_iff_eq.mp h, .inl ⟨_, hx⟩⟩))
    · cases h
  | _ => cases h
section
variable {X : Cx} {raw : List (Nat × V)} {W : WX} {o e : Expr} {es : List Expr} {fo : DE} {fs : DA} {name : Str} {apos cpos : Pos} {T id : String} {r : V → List V → Hp → VK → Prop} {g : GM}
theorem ex_bm (pa : PlainAttrs T) (slot : Slot T name id) (hty : typeOf (.builtin id) = pure (.type "method_descriptor")) (hm : MtR X id r) (ok : OkM X.K X.mg r g) (ho : EX X raw W o fo) (ha : AX X raw W (e :: es) fs)
    (hbase : attributeBase o name X.env (eval o X.env) = eval o X.env := by rfl)
    (hfew : ((backTo cpos (starEach (e :: es) X.env)).all (fun x => !x.1) && (backToKw cpos (keywordEach [] X.env)).all (fun x => x.1.isSome)
      && decide ((e :: es).length + ([] : List Keyword).length + (if ([] : List Keyword).isEmpty then 0 else 1) < 30)) = true := by rfl)
    (hline : (apos.endLine == cpos.line) = true := by rfl) (hs : starEach (e :: es) X.env = (false, eval e X.env) :: starEach es X.env := by rfl) (hplain : (backTo cpos (starEach es X.env)).any (·.1) = false := by rfl) :
    EX X raw W (.Call (.Attribute o name apos) (e :: es) [] cpos) (dMt T g fo fs) :=
  PE.imp (pe_bm pa slot hty hm ho ha hbase hfew hline hs hplain) fun σ H Q ⟨ρ, env, S, e, s, h⟩ => tG_bind e s h fun d S1 v ρ1 H1 st e1 s1 r1 h1 => by
    by_cases hk : tyOk T d S1 = true
    · rw [if_pos hk] at h1
      exact ⟨tyOk_is s1 r1 hk, tG_bind e1 s1 h1 fun ds S2 vs ρ2 H2 st2 e2 s2 r2 h2 => ok W ρ2 H2 σ S2 _ _ _ _ Q s2 (r1.mono st2) r2 h2⟩
    · rw [if_neg hk] at h1; exact h1.elim
theorem ex_bm0 (pa : PlainAttrs T) (slot : Slot T name id) (hty : typeOf (.builtin id) = pure (.type "method_descriptor")) (hm : MtR X id r) (ok : OkM X.K X.mg r g) (ho : EX X raw W o fo)
    (hbase : attributeBase o name X.env (eval o X.env) = eval o X.env := by rfl) (hline : (apos.endLine == cpos.line) = true := by rfl) : EX X raw W (.Call (.Attribute o name apos) [] [] cpos) (dMt0 T g fo) :=
  PE.imp (pe_bm0 pa slot hty hm ho hbase hline) fun σ H Q ⟨ρ, env, S, e, s, h⟩ => tG_bind e s h fun d S1 v ρ1 H1 st e1 s1 r1 h1 => by
    by_cases hk : tyOk T d S1 = true
    · rw [if_pos hk] at h1
      exact ⟨tyOk_is s1 r1 hk, ok W ρ1 H1 σ S1 _ _ _ _ Q s1 r1 .nil h1⟩
    · rw [if_neg hk] at h1; exact h1.elim
end
def lstAt (x : D) (S : Sto) : Option (Nat × List D) := match x with
  | .ref n => match S[n]? with
    | some (.lst ds) => some (n, ds)
    | _ => none
  | _ => none
def dctAt (x : D) (S : Sto) : Option (Nat × List (D × D)) := match x with
  | .ref n => match S[n]? with
    | some (.dict ds) => some (n, ds)
    | _ => none
  | _ => none
section
variable {K : Fg} {mg : Mg} {ρ : List Addr} {H : Hp} {S : Sto} {x : V} {dx : D}
theorem lstAt_is {n : Nat} {ds : List D} (s : SR K mg ρ H S) (r : Rep K ρ H x dx) (h : lstAt dx S = some (n, ds)) : ∃ a xs, x = .ref a ∧ ρ[n]? = some a ∧ H a = some (.lst xs) ∧ RepL K ρ H xs ds := by
  cases r with
  | ref hn =>
    unfold lstAt at h
    dsimp only at h
    split at h
    · rename_i ds hS
      cases h
      obtain ⟨xs, hx, l⟩ := s.ob _ _ _ hS hn
      exact ⟨_, xs, rfl, hn, hx, l⟩
    · cases h
  | _ => cases h
theorem dctAt_is {n : Nat} {kvs : List (D × D)} (s : SR K mg ρ H S) (r : Rep K ρ H x dx) (h : dctAt dx S = some (n, kvs)) : ∃ a ks, x = .ref a ∧ ρ[n]? = some a ∧ H a = some (.dK ks) ∧ RepKV K ρ H ks kvs := by
  cases r with
  | ref hn =>
    unfold dctAt at h
    dsimp only at h
    split at h
    · rename_i ds hS
      cases h
      obtain ⟨xs, hx, l⟩ := s.ob _ _ _ hS hn
      exact ⟨_, xs, rfl, hn, hx, l⟩
    · cases h
  | _ => cases h
end
def gAppend : GM := fun x xs S => match lstAt x S, xs with
  | some (n, ds), [y] => if ds.length < lim then .ok .non (S.set n (.lst (ds ++ [y]))) else .err
  | _, _ => .err
def gExtend : GM := fun x xs S => match lstAt x S, xs with
  | some (n, ds), [y] => match lstAt y S with
    | some (_, es) => if ds.length + es.length ≤ lim then .ok .non (S.set n (.lst (ds ++ es))) else .err
    | none => .err
  | _, _ => .err
def gPop : GM := fun x xs S => match lstAt x S, xs with
  | some (n, ds), [] => match ds[ds.length - 1]? with
    | some d => .ok d (S.set n (.lst ds.dropLast))
    | none => .err
  | _, _ => .err
def gPopAt : GM := fun x xs S => match lstAt x S, xs with
  | some (n, ds), [.int i] => if -(2 ^ 63) ≤ i ∧ i < 2 ^ 63 then (match ixN ds.length i with
    | some k => match ds[k]? with
      | some d => .ok d (S.set n (.lst (ds.eraseIdx k)))
      | none => .err
    | none => .err) else .err
  | _, _ => .err
def gInsert : GM := fun x xs S => match lstAt x S, xs with
  | some (n, ds), [.int i, y] => if ds.length < lim ∧ 0 ≤ i ∧ i < 2 ^ 63 then .ok .non (S.set n (.lst (ds.take i.toNat ++ [y] ++ ds.drop i.toNat))) else .err
  | _, _ => .err
def gLClear : GM := fun x xs S => match lstAt x S, xs with
  | some (n, ds), [] => .ok .non (S.set n (.lst []))
  | _, _ => .err
def firstIx (p : D → Bool) : List D → Option Nat
  | [] => none
  | d :: r => if p d = true then some 0 else (firstIx p r).map (· + 1)
def gIndex : GM := fun x xs S => match itemsL x S, xs with
  | some ds, [y] => if (flatD y && ds.all flatD) = true then (match firstIx (fun d => eqF d y) ds with
    | some j => .ok (.int (j : Nat)) S
    | none => .err) else .err
  | _, _ => .err
def gRemove : GM := fun x xs S => match lstAt x S, xs with
  | some (n, ds), [.int k] => match intsOf ds with
    | some ns => if k ∈ ns then .ok .non (S.set n (.lst (ds.eraseIdx (ns.idxOf k)))) else .err
    | none => .err
  | _, _ => .err
def gGet2 : GM := fun x xs S => match dctAt x S, xs with
  | some (_, kvs), [k, z] => if isKey k = true then .ok ((findK kvs k).getD z) S else .err
  | _, _ => .err
def gGet1 : GM := fun x xs S => match dctAt x S, xs with
  | some (_, kvs), [k] => if isKey k = true then .ok ((findK kvs k).getD .non) S else .err
  | _, _ => .err
def gDPop : GM := fun x xs S => match dctAt x S, xs with
  | some (n, kvs), [k] => if isKey k = true then (match findK kvs k with
    | some d => .ok d (S.set n (.dict (dropD kvs k)))
    | none => .err) else .err
  | _, _ => .err
section
variable {K : Fg} {mg : Mg} {X : Cx}
theorem okAppend : OkM K mg rAppend gAppend := by
  intro W ρ H σ S x dx xs ds Q s r rl h
  unfold gAppend at h
  split at h
  · rename_i n ds y e
    obtain ⟨a, vs, rfl, hn, hx, l⟩ := lstAt_is s r e
    cases rl with
    | cons ry t =>
      cases t
      split at h
      · rename_i hz
        exact ⟨a, vs, _, rfl, rfl, hx, by rw [lim_eq, l.length]; exact hz, post_set h s hn ⟨_, upd_same, (l.append (.cons ry .nil)).mono (wr s hn)⟩ .non⟩
      · exact h.elim
  · exact h.elim
theorem okExtend : OkM K mg rExtend gExtend := by
  intro W ρ H σ S x dx xs ds Q s r rl h
  unfold gExtend at h
  split at h
  · rename_i n ds y e
    obtain ⟨a, vs, rfl, hn, hx, l⟩ := lstAt_is s r e
    cases rl with
    | cons ry t =>
      cases t
      split at h
      · rename_i m es e2
        obtain ⟨b, ws, rfl, hm, hy, l2⟩ := lstAt_is s ry e2
        split at h
        · rename_i hz
          exact ⟨a, b, vs, ws, rfl, rfl, hx, hy, by rw [lim_eq, l.length, l2.length]; exact hz, post_set h s hn ⟨_, upd_same, (l.append l2).mono (wr s hn)⟩ .non⟩
        · exact h.elim
      · exact h.elim
  · exact h.elim
theorem okPop : OkM K mg rPop gPop := by
  intro W ρ H σ S x dx xs ds Q s r rl h
  unfold gPop at h
  split at h
  · rename_i n ds e
    obtain ⟨a, vs, rfl, hn, hx, l⟩ := lstAt_is s r e
    cases rl
    split at h
    · rename_i d e2
      obtain ⟨v, q, rv⟩ := l.get e2
      exact ⟨a, vs, v, rfl, rfl, hx, by rw [l.length]; exact q, post_set h s hn ⟨_, upd_same, l.dropLast.mono (wr s hn)⟩ (rv.mono (wr s hn))⟩
    · exact h.elim
  · exact h.elim
theorem okPopAt : OkM K mg rPopAt gPopAt := by
  intro W ρ H σ S x dx xs ds Q s r rl h
  unfold gPopAt at h
  split at h
  · rename_i n ds i e
    obtain ⟨a, vs, rfl, hn, hx, l⟩ := lstAt_is s r e
    cases rl with
    | cons ri t =>
      cases t; cases ri
      split at h
      · rename_i hz
        split at h
        · rename_i k ek
          split at h
          · rename_i d e2
            obtain ⟨v, q, rv⟩ := l.get e2
            exact ⟨a, vs, i, k, v, rfl, rfl, hx, hz.1, hz.2, by rw [l.length]; exact (ixN_seq ek).1, q, post_set h s hn ⟨_, upd_same, (l.eraseIdx k).mono (wr s hn)⟩ (rv.mono (wr s hn))⟩
          · exact h.elim
        · exact h.elim
      · exact h.elim
  · exact h.elim
theorem okInsert : OkM K mg (fun x vs H Q => ∃ (l : Addr) (xs : List V) (i : Int) (y : V), x = .ref l ∧ vs = [.int i, y] ∧ H l = some (.lst xs) ∧ xs.length < sizeLine ∧ 0 ≤ i ∧ i < 2 ^ 63 ∧
    Q .non (upd H l (.lst (xs.take i.toNat ++ [y] ++ xs.drop i.toNat)))) gInsert := by
  intro W ρ H σ S x dx xs ds Q s r rl h
  unfold gInsert at h
  split at h
  · rename_i n ds i y e
    obtain ⟨a, vs, rfl, hn, hx, l⟩ := lstAt_is s r e
    cases rl with
    | cons ri t =>
      cases t with
      | cons ry t =>
        cases t; cases ri
        split at h
        · rename_i hz
          exact ⟨a, vs, i, _, rfl, rfl, hx, by rw [lim_eq, l.length]; exact hz.1, hz.2.1, hz.2.2, post_set h s hn ⟨_, upd_same, (((l.take _).append (.cons ry .nil)).append (l.drop _)).mono (wr s hn)⟩ .non⟩
        · exact h.elim
  · exact h.elim
theorem okLClear : OkM K mg rClear gLClear := by
  intro W ρ H σ S x dx xs ds Q s r rl h
  unfold gLClear at h
  split at h
  · rename_i n ds e
    obtain ⟨a, vs, rfl, hn, hx, l⟩ := lstAt_is s r e
    cases rl
    exact ⟨a, vs, rfl, rfl, hx, post_set h s hn ⟨_, upd_same, .nil⟩ .non⟩
  · exact h.elim
theorem firstIx_spec {p : D → Bool} : ∀ {ds : List D} {j : Nat}, firstIx p ds = some j → ∃ d, ds[j]? = some d ∧ p d = true ∧ ∀ (m : Nat) (e : D), m < j → ds[m]? = some e → p e = false
  | [], _, h => by cases h
  | d :: r, j, h => by
    unfold firstIx at h
    split at h
    · rename_i hp
      cases h
      exact ⟨d, rfl, hp, fun m e hm => absurd hm (Nat.not_lt_zero _)⟩
    · rename_i hp
      obtain ⟨k, e, rfl⟩ := Option.map_eq_some_iff.mp h
      obtain ⟨d', h1, h2, h3⟩ := firstIx_spec e
      refine ⟨d', h1, h2, fun m e hm he => ?_⟩
      cases m with
      | zero => simp at he; subst he; simpa using hp
      | succ m => exact h3 m e (by omega) (by simpa using he)
theorem okIndex : OkM K mg (rIndex K) gIndex := by
  intro W ρ H σ S x dx xs ds Q s r rl h
  unfold gIndex at h
  split at h
  · rename_i ds y e
    obtain ⟨a, vs, rfl, hq, l⟩ := itemsL_is s r e
    cases rl with
    | cons ry t =>
      cases t
      split at h
      · rename_i hf
        rw [Bool.and_eq_true] at hf
        obtain ⟨ey, fy⟩ := flat_toV ry hf.1
        obtain ⟨el, fl⟩ := flat_all l hf.2
        split at h
        · rename_i j ej
          obtain ⟨d, h1, h2, h3⟩ := firstIx_spec ej
          have at_ : ∀ (m : Nat) (d : D), ds[m]? = some d → flatD d = true ∧ vs[m]? = some (toV d) := fun m d hd =>
            ⟨List.all_eq_true.mp hf.2 d (List.mem_of_getElem? hd), by rw [el, List.getElem?_map, hd]; rfl⟩
          refine ⟨a, vs, _, j, toV d, rfl, rfl, hq, fy, fl, (at_ j d h1).2, by rw [ey, eqF_eqV (at_ j d h1).1 hf.1]; exact h2, fun m z hm hz => ?_, post_val h s (.int _)⟩
          cases hd : ds[m]? with
          | none =>
            rw [el, List.getElem?_map, hd] at hz
            cases hz
          | some d' =>
            have q := at_ m d' hd
            rw [q.2] at hz
            cases hz
            rw [ey, eqF_eqV q.1 hf.1]
            exact h3 m d' hm hd
        · exact h.elim
      · exact h.elim
  · exact h.elim
theorem idxOf_not : ∀ {l : List Int} {x : Int} {m : Nat}, m < l.idxOf x → l[m]? ≠ some x
  | [], _, _, h => by simp at h
  | a :: l, x, m, h => by
    rw [List.idxOf_cons] at h
    cases m with
    | zero =>
      intro e
      simp at e
      subst e
      simp at h
    | succ m =>
      by_cases q : a = x
      · subst q; simp at h
      · have e : (a == x) = false := by simpa using q
        rw [e] at h
        simp only [cond_false] at h
        rw [List.getElem?_cons_succ]
        exact idxOf_not (by omega)
theorem okRemove : OkM K mg rRemI gRemove := by
  intro W ρ H σ S x dx xs ds Q s r rl h
  unfold gRemove at h
  split at h
  · rename_i n ds k e
    obtain ⟨a, vs, rfl, hn, hx, l⟩ := lstAt_is s r e
    cases rl with
    | cons rk t =>
      cases t; cases rk
      split at h
      · rename_i ns en
        split at h
        · rename_i hk
          obtain rfl := intsOf_eq en
          obtain rfl := l.ints
          refine ⟨a, ns, k, ns.idxOf k, rfl, rfl, hx, ?_, fun m hm e => ?_, ?_⟩
          · rw [List.getElem?_eq_getElem (List.idxOf_lt_length_of_mem hk), List.getElem_idxOf]
          · exact idxOf_not hm e
          · have e1 : ∀ (l : List Int) (j : Nat), (l.map V.int).eraseIdx j = (l.eraseIdx j).map V.int := erase_mapI
            refine post_set h s hn ⟨_, upd_same, ?_⟩ .non
            have q := (l.eraseIdx (ns.idxOf k)).mono (wr (ho := .lst ((ns.eraseIdx (ns.idxOf k)).map V.int)) s hn)
            rw [e1] at q
            exact q
        · exact h.elim
      · exact h.elim
  · exact h.elim
def rGet2 : V → List V → Hp → VK → Prop := fun x xs H Q => ∃ a y z o, x = .ref a ∧ xs = [y, z] ∧ DGet H a y o ∧ Q (o.getD z) H
theorem mt_get2 (hu : X.A.units + 1 < cLine) : MtR X "dict.get" rGet2 := by
  intro pins s σ H x xs v us Q I rx rxs h
  obtain ⟨a, y, z, o, rfl, rfl, g, q⟩ := h
  cases rx
  obtain ⟨u, w, rfl, ru, rw'⟩ := vals2 rxs
  exact d_get2 hu I g ru rw' fun w' s' I' r => ⟨_, H, I', r, q⟩
def rGet1 : V → List V → Hp → VK → Prop := fun x xs H Q => ∃ a y o, x = .ref a ∧ xs = [y] ∧ DGet H a y o ∧ Q (o.getD .non) H
theorem mt_get1 (hu : X.A.units + 1 < cLine) : MtR X "dict.get" rGet1 := by
  intro pins s σ H x xs v us Q I rx rxs h
  obtain ⟨a, y, o, rfl, rfl, g, q⟩ := h
  cases rx
  obtain ⟨u, rfl, ru⟩ := vals1 rxs
  exact d_get1 hu I g ru fun w' s' I' r => ⟨_, H, I', r, q⟩
theorem okGet2 : OkM K mg rGet2 gGet2 := by
  intro W ρ H σ S x dx xs ds Q s r rl h
  unfold gGet2 at h
  split at h
  · rename_i n kvs k z e
    obtain ⟨a, ks, rfl, hn, hx, l⟩ := dctAt_is s r e
    cases rl with
    | cons rk t =>
      cases t with
      | cons rz t =>
        cases t
        split at h
        · rename_i hk
          obtain ⟨kk, rfl, rfl⟩ := key_of_rep rk hk
          refine ⟨a, _, _, _, rfl, rfl, DGet.k (k := kk) hx, ?_⟩
          rcases l.find (k := kk) with ⟨h1, h2⟩ | ⟨v', d', h1, h2, r⟩
          · rw [h1]; rw [h2] at h; exact post_val h s rz
          · rw [h1]; rw [h2] at h; exact post_val h s r
        · exact h.elim
  · exact h.elim
theorem okGet1 : OkM K mg rGet1 gGet1 := by
  intro W ρ H σ S x dx xs ds Q s r rl h
  unfold gGet1 at h
  split at h
  · rename_i n kvs k e
    obtain ⟨a, ks, rfl, hn, hx, l⟩ := dctAt_is s r e
    cases rl with
    | cons rk t =>
      cases t
      split at h
      · rename_i hk
        obtain ⟨kk, rfl, rfl⟩ := key_of_rep rk hk
        refine ⟨a, _, _, rfl, rfl, DGet.k (k := kk) hx, ?_⟩
        rcases l.find (k := kk) with ⟨h1, h2⟩ | ⟨v', d', h1, h2, r⟩
        · rw [h1]; rw [h2] at h; exact post_val h s .non
        · rw [h1]; rw [h2] at h; exact post_val h s r
      · exact h.elim
  · exact h.elim
def rDPop : V → List V → Hp → VK → Prop := fun x xs H Q => ∃ a kvs k v, x = .ref a ∧ xs = [kV k] ∧ H a = some (.dK kvs) ∧ valV kvs k = some v ∧ Q v (upd H a (.dK (dropK kvs k)))
theorem mt_dpop : MtR X "dict.pop" rDPop := by
  intro pins s σ H x xs v us Q I rx rxs h
  obtain ⟨a, kvs, k, w, rfl, rfl, e, hv, q⟩ := h
  cases rx
  obtain ⟨u, rfl, ru⟩ := vals1 rxs
  exact d_pop (more := []) I e ru hv (.inl rfl) fun w' s' I' r => ⟨_, _, I', r, q⟩
theorem okDPop : OkM K mg rDPop gDPop := by
  intro W ρ H σ S x dx xs ds Q s r rl h
  unfold gDPop at h
  split at h
  · rename_i n kvs k e
    obtain ⟨a, ks, rfl, hn, hx, l⟩ := dctAt_is s r e
    cases rl with
    | cons rk t =>
      cases t
      split at h
      · rename_i hk
        obtain ⟨kk, rfl, rfl⟩ := key_of_rep rk hk
        split at h
        · rename_i d ed
          rcases l.find (k := kk) with ⟨h1, h2⟩ | ⟨v', d', h1, h2, r⟩
          · rw [h2] at ed; cases ed
          · rw [h2] at ed; cases ed
            exact ⟨a, ks, kk, v', rfl, rfl, hx, h1, post_set h s hn ⟨_, upd_same, l.drop.mono (wr s hn)⟩ (r.mono (wr s hn))⟩
        · exact h.elim
      · exact h.elim
  · exact h.elim
end

/-! ### methods of texts -/
def gSplit : GM := fun x xs S => match x, xs with
  | .str a, [.str b] => if (b.length == 0) = false ∧ a.length + 2 ≤ lim then .ok (.ref S.length) (S ++ [.lst ((Txt.split a b).map D.str)]) else .err
  | _, _ => .err
def gJoin : GM := fun x xs S => match x, xs with
  | .str a, [y] => match (itemsS y S).bind strsOf with
    | some ys => if (ys.map (·.length)).sum + ys.length * a.length ≤ 16777216 then .ok (.str (Txt.join a ys)) S else .err
    | none => .err
  | _, _ => .err
def gUpper : GM := fun x xs S => match x, xs with
  | .str a, [] => if a.length ≤ 5592405 then .ok (.str (Txt.upper a)) S else .err
  | _, _ => .err
def gStarts : GM := fun x xs S => match x, xs with
  | .str a, [.str b] => .ok (.bl (Txt.startswith a b)) S
  | _, _ => .err
def gFind : GM := fun x xs S => match x, xs with
  | .str a, [.str b] => .ok (.int (Txt.find a b)) S
  | _, _ => .err
section
variable {K : Fg} {mg : Mg} {X : Cx}
theorem okSplit : OkM K mg (fun x xs H Q => ∃ a b, x = .str a ∧ xs = [.str b] ∧ (b.length == 0) = false ∧ a.length + 2 ≤ sizeLine ∧ rNewStrs (Txt.split a b) H Q) gSplit := by
  intro W ρ H σ S x dx xs ds Q s r rl h
  unfold gSplit at h
  split at h
  · cases r
    cases rl with
    | cons rk t =>
      cases t; cases rk
      split at h
      · rename_i hz
        exact ⟨_, _, rfl, rfl, hz.1, by rw [lim_eq]; exact hz.2, post_lst h s (repL_strs _)⟩
      · exact h.elim
  · exact h.elim
theorem okJoin : OkM K mg (fun x xs H Q => ∃ a p, ∃ ys : List Str, x = .str a ∧ xs = [.ref p] ∧ (SqL K H p (ys.map V.str) ∨ SqT K H p (ys.map V.str)) ∧
    (ys.map (·.length)).sum + ys.length * a.length ≤ 16777216 ∧ Q (.str (Txt.join a ys)) H) gJoin := by
  intro W ρ H σ S x dx xs ds Q s r rl h
  unfold gJoin at h
  split at h
  · cases r
    cases rl with
    | cons rk t =>
      cases t
      split at h
      · rename_i ys e
        split at h
        · rename_i hz
          obtain ⟨ds, e1, e2⟩ := Option.bind_eq_some_iff.mp e
          obtain ⟨a, xs, rfl, hq, l⟩ := itemsS_is s rk e1
          obtain rfl := strsOf_eq e2
          obtain rfl := l.strs
          exact ⟨_, a, ys, rfl, rfl, hq, hz, post_val h s (.str _)⟩
        · exact h.elim
      · exact h.elim
  · exact h.elim
theorem okUpper : OkM K mg (fun x xs H Q => ∃ a, x = .str a ∧ xs = [] ∧ a.length ≤ 5592405 ∧ Q (.str (Txt.upper a)) H) gUpper := by
  intro W ρ H σ S x dx xs ds Q s r rl h
  unfold gUpper at h
  split at h
  · cases r; cases rl
    split at h
    · rename_i hz
      exact ⟨_, rfl, rfl, hz, post_val h s (.str _)⟩
    · exact h.elim
  · exact h.elim
theorem okStarts : OkM K mg (fun x xs H Q => ∃ a b, x = .str a ∧ xs = [.str b] ∧ Q (.bl (Txt.startswith a b)) H) gStarts := by
  intro W ρ H σ S x dx xs ds Q s r rl h
  unfold gStarts at h
  split at h
  · cases r
    cases rl with
    | cons rk t => cases t; cases rk; exact ⟨_, _, rfl, rfl, post_val h s (.bl _)⟩
  · exact h.elim
theorem okFind : OkM K mg (fun x xs H Q => ∃ a b, x = .str a ∧ xs = [.str b] ∧ Q (.int (Txt.find a b)) H) gFind := by
  intro W ρ H σ S x dx xs ds Q s r rl h
  unfold gFind at h
  split at h
  · cases r
    cases rl with
    | cons rk t => cases t; cases rk; exact ⟨_, _, rfl, rfl, post_val h s (.int _)⟩
  · exact h.elim
end
end RL

namespace RL
open PySem PySem.Spec PyProof.Rows L2

/-! ### blocks -/
def dSkip : DS := fun env S => .nx env S
def dSeq (f g : DS) : DS := fun env S => match f env S with
  | .nx e S' => g e S'
  | r => r
def dBreak : DS := fun env S => .bk env S
def dCont : DS := fun env S => .ct env S
def dDrop (f : DE) : DS := fun env S => thenS (f env S) env fun _ S' => .nx env S'
def dRet (f : DE) : DS := fun env S => thenS (f env S) env fun d S' => .rt d S'
def dRetN : DS := fun _ S => .rt .non S
def dIf (t : DT) (f g : DS) : DS := fun env S => thenS (t env S) env fun k S' => if k = true then f env S' else g env S'
def dSet (i : Nat) (f : DE) : DS := fun env S => thenS (f env S) env fun d S' => .nx (env.set i (some d)) S'
def dAug (i : Nat) (g : G2) (f : DE) : DS := fun env S => match env[i]? with
  | some (some x) => thenS ((f env S).bind fun y S1 => g x y S1) env fun z S2 => .nx (env.set i (some z)) S2
  | _ => .err
def dRaise (c : Str) : DS := fun env S => .exc c env S

section
variable {X : Cx} {raw : List (Nat × V)} {W : WX} {pos : Pos} {st : Stmt} {rest a b : List Stmt} {f g : DS} {e : Expr} {fe : DE} {t : DT}
theorem bx_nil : BX X raw W [] dSkip := PSs.imp pss_nil fun σ H D ⟨ρ, env, S, e, s, h⟩ => h σ ρ H (Stp.refl _ _) s e
theorem bx_cons (h1 : SX X raw W st f) (h2 : BX X raw W rest g) : BX X raw W (st :: rest) (dSeq f g) :=
  PSs.imp (pss_cons h1 h2) fun σ H D ⟨ρ, env, S, e, s, h⟩ => ⟨ρ, env, S, e, s, by
    unfold dSeq at h
    cases q : f env S with
    | nx e1 S1 =>
      rw [q] at h
      exact fun σ' ρ' H' st sr er => ⟨ρ', e1, S1, er, sr, PostS.later h st⟩
    | rt d S1 => rw [q] at h; exact h
    | bk d S1 => rw [q] at h; exact h
    | ct d S1 => rw [q] at h; exact h
    | exc c d S1 => rw [q] at h; exact h
    | err => rw [q] at h; exact h⟩
theorem bx_one (h1 : SX X raw W st f) : BX X raw W [st] f := pss_one h1
theorem sx_pass : SX X raw W (.Pass pos) dSkip := PS.imp ps_pass fun σ H D ⟨ρ, env, S, e, s, h⟩ => h σ ρ H (Stp.refl _ _) s e
theorem sx_break : SX X raw W (.Break pos) dBreak := PS.imp ps_break fun σ H D ⟨ρ, env, S, e, s, h⟩ => h σ ρ H (Stp.refl _ _) s e
theorem sx_continue : SX X raw W (.Continue pos) dCont := PS.imp ps_continue fun σ H D ⟨ρ, env, S, e, s, h⟩ => h σ ρ H (Stp.refl _ _) s e
theorem sx_expr (he : EX X raw W e fe) (hs : swapsWith e none pos.line X.env = pure false := by rfl) : SX X raw W (.Expr e pos) (dDrop fe) :=
  PS.imp (ps_expr he hs) fun σ H D ⟨ρ, env, S, e, s, h⟩ => tG_thenS e s h fun d S1 v ρ1 H1 st e1 s1 r1 h1 => h1 σ ρ1 H1 (Stp.refl _ _) s1 e1
theorem sx_ret (he : EX X raw W e fe) : SX X raw W (.Return (some e) pos) (dRet fe) :=
  PS.imp (ps_ret he) fun σ H D ⟨ρ, env, S, e, s, h⟩ => tG_thenS e s h fun d S1 v ρ1 H1 st e1 s1 r1 h1 => h1 v ρ1 H1 (Stp.refl _ _) s1 r1
theorem sx_retN : SX X raw W (.Return none pos) dRetN := PS.imp ps_retN fun σ H D ⟨ρ, env, S, e, s, h⟩ => h .non ρ H (Stp.refl _ _) s .non
theorem sx_if {c : Expr} (hc : TX X raw W c t) (ha : BX X raw W a f) (hb : BX X raw W b g) : SX X raw W (.If c a b pos) (dIf t f g) :=
  PS.imp (ps_if hc ha hb) fun σ H D ⟨ρ, env, S, e, s, h⟩ => tG_thenS e s h fun k S1 v ρ1 H1 st e1 s1 r1 h1 => by
    cases r1
    by_cases hk : k = true
    · rw [if_pos hk] at h1 ⊢; exact ⟨ρ1, env, S1, e1, s1, h1⟩
    · rw [if_neg hk] at h1 ⊢; exact ⟨ρ1, env, S1, e1, s1, h1⟩
theorem noraw {i : Nat} : ∀ p ∈ ([] : List (Nat × V)), p.1 ≠ i := fun _ h => nomatch h
theorem sx_set {i : Nat} {x : Str} {pos' : Pos} (hN : X.N.Nodup) (hi : X.N[i]? = some x) (hx : Loc X.env.scope x) (he : EX X raw W e fe) (hs : swapsWith e (some (.Name x pos')) pos.line X.env = pure false := by rfl)
    (hr : ∀ p ∈ raw, p.1 ≠ i := by exact noraw) (hf : X.fn x = true ∨ X.env.scope.names.lookup x = some .local := by first | exact .inl rfl | exact .inr rfl | assumption) : SX X raw W (.Assign [.Name x pos'] e pos) (dSet i fe) :=
  PS.imp (ps_set hN hi hx he hs hf) fun σ H D ⟨ρ, env, S, e, s, h⟩ => tG_thenS e s h fun d S1 v ρ1 H1 st e1 s1 r1 h1 => h1 _ ρ1 H1 (Stp.refl _ _) s1 (e1.set r1 hr)
theorem sx_aug {i : Nat} {x : Str} {pos' : Pos} {op : Operator} {r : R2} {g : G2} (ho : OpR X (inplaceOp op) r) (ok : Ok2 X.K X.mg r g) (hN : X.N.Nodup) (hi : X.N[i]? = some x) (hx : Loc X.env.scope x) (he : EX X raw W e fe)
    (hr : ∀ p ∈ raw, p.1 ≠ i := by exact noraw) (hf : X.fn x = true ∨ X.env.scope.names.lookup x = some .local := by first | exact .inl rfl | exact .inr rfl | assumption) : SX X raw W (.AugAssign (.Name x pos') op e pos) (dAug i g fe) :=
  PS.imp (ps_aug hN hi hx he (ti := r) ho hf) fun σ H D ⟨ρ, env, S, e, s, h⟩ => by
    unfold dAug at h
    split at h
    · rename_i d hd
      obtain ⟨v, hv, rv⟩ := e.at_ i d hd
      refine ⟨v, hv, ?_⟩
      have h' : PostS X.K X.mg raw W ρ H (thenS (fe env S) env fun y S1 => thenS (g d y S1) env fun z S2 => .nx (env.set i (some z)) S2) D := by
        cases q : fe env S <;> rw [q] at h <;> exact h
      exact tG_thenS e s h' fun y S1 w ρ1 H1 st1 e1 s1 r1 h1 => ok W ρ1 H1 σ S1 _ _ _ _ _ s1 (rv.mono st1) r1 (by
        cases q : g d y S1 with
        | ok z S2 =>
          rw [q] at h1
          exact fun v2 ρ2 H2 st2 s2 r2 => h1 _ ρ2 H2 st2 s2 ((e1.mono st2).set r2 hr)
        | exc c S2 =>
          rw [q] at h1
          exact fun C ρ' H' gc st sr => h1 C σ ρ' H' gc st sr (e1.mono st)
        | err => rw [q] at h1; exact h1)
    · exact h.elim
end

/-! ### targets -/
abbrev DG := D → Env → Sto → R Env
abbrev DGs := List D → Env → Sto → R Env
def PostG (K : Fg) (mg : Mg) (raw : List (Nat × V)) (ρ : List Addr) (H : Hp) (r : R Env) (Q : L2.St → Hp → Prop) : Prop :=
  match r with
  | .ok e S' => ∀ σ' ρ' H', Stp ρ H ρ' H' → SR K mg ρ' H' S' → ER K raw ρ' H' e σ' → Q σ' H'
  | _ => False
def tGt (K : Fg) (mg : Mg) (raw : List (Nat × V)) (f : DG) : TG := fun v σ H Q => ∃ ρ env S d, ER K raw ρ H env σ ∧ SR K mg ρ H S ∧ Rep K ρ H v d ∧ PostG K mg raw ρ H (f d env S) Q
def tGts (K : Fg) (mg : Mg) (raw : List (Nat × V)) (f : DGs) : TGs := fun vs σ H Q => ∃ ρ env S ds, ER K raw ρ H env σ ∧ SR K mg ρ H S ∧ RepL K ρ H vs ds ∧ PostG K mg raw ρ H (f ds env S) Q
theorem PostG.later {K : Fg} {mg : Mg} {raw : List (Nat × V)} {ρ ρ1 : List Addr} {H H1 : Hp} {r : R Env} {Q : L2.St → Hp → Prop} (h : PostG K mg raw ρ H r Q) (s : Stp ρ H ρ1 H1) : PostG K mg raw ρ1 H1 r Q := by
  cases r with
  | ok e S' => exact fun v ρ' H' s' => h v ρ' H' (s.trans s')
  | exc c S' => exact h
  | err => exact h
theorem PG.imp {X : Cx} {e : Expr} {t t' : TG} (h : PG X e t) (q : ∀ v σ H Q, t' v σ H Q → t v σ H Q) : PG X e t' := ⟨fun pins s σ H v u Q I r z => h.run pins s σ H v u Q I r (q v σ H Q z)⟩
theorem PGs.imp {X : Cx} {e : List Expr} {t t' : TGs} (h : PGs X e t) (q : ∀ v σ H Q, t' v σ H Q → t v σ H Q) : PGs X e t' := ⟨fun pins s σ H v u Q I r z => h.run pins s σ H v u Q I r (q v σ H Q z)⟩
abbrev GX (X : Cx) (raw : List (Nat × V)) (e : Expr) (f : DG) : Prop := PG X e (tGt X.K X.mg raw f)
abbrev GsX (X : Cx) (raw : List (Nat × V)) (e : List Expr) (f : DGs) : Prop := PGs X e (tGts X.K X.mg raw f)
def sName (i : Nat) : DG := fun d env S => .ok (env.set i (some d)) S
def sNil : DGs := fun ds env S => match ds with
  | [] => .ok env S
  | _ => .err
def sCons (f : DG) (g : DGs) : DGs := fun ds env S => match ds with
  | d :: r => (f d env S).bind fun e S1 => g r e S1
  | [] => .err
def sTup (n : Nat) (g : DGs) : DG := fun d env S => match d with
  | .tup ds => if ds.length = n then g ds env S else .err
  | _ => .err
/-- o[i] = v -/
def setI (o i v : D) (S : Sto) : R Unit := match o with
  | .ref n => match S[n]? with
    | some (.lst ds) => match i with
      | .int k => match ixN ds.length k with
        | some j => .ok () (S.set n (.lst (ds.set j v)))
        | none => .err
      | _ => .err
    | some (.dict kvs) => if isKey i = true ∧ kvs.length < lim then .ok () (S.set n (.dict (putD kvs i v))) else .err
    | _ => .err
  | _ => .err
def noEx {α : Type} : R α → R α
  | .exc _ _ => .err
  | r => r
def sSub (fo fi : DE) : DG := fun v env S => (noEx (fo env S)).bind fun o S1 => (noEx (fi env S1)).bind fun i S2 => (setI o i v S2).bind fun _ S3 => .ok env S3
section
variable {X : Cx} {raw : List (Nat × V)} {W : WX} {pos : Pos}
theorem gx_name {i : Nat} {x : Str} (hN : X.N.Nodup) (hi : X.N[i]? = some x) (hx : Loc X.env.scope x) (hr : ∀ p ∈ raw, p.1 ≠ i := by exact noraw) (hf : X.fn x = true ∨ X.env.scope.names.lookup x = some .local := by first | exact .inl rfl | exact .inr rfl | assumption) : GX X raw (.Name x pos) (sName i) :=
  PG.imp (pg_name hN hi hx hf) fun v σ H Q ⟨ρ, env, S, d, e, s, r, h⟩ => h _ ρ H (Stp.refl _ _) s (e.set r hr)
theorem gsx_nil : GsX X raw [] sNil := PGs.imp pgs_nil fun vs σ H Q ⟨ρ, env, S, ds, e, s, r, h⟩ => by
  cases r with
  | nil => exact ⟨rfl, h σ ρ H (Stp.refl _ _) s e⟩
  | cons _ _ => exact h.elim
theorem gsx_cons {e : Expr} {es : List Expr} {f : DG} {g : DGs} (h1 : GX X raw e f) (h2 : GsX X raw es g)
    (hs : (assignEach (e :: es) X.env).map (·.2) = assign e X.env :: (assignEach es X.env).map (·.2) := by rfl) : GsX X raw (e :: es) (sCons f g) :=
  PGs.imp (pgs_cons h1 h2 hs) fun vs σ H Q ⟨ρ, env, S, ds, e, s, r, h⟩ => by
    cases r with
    | nil => exact h.elim
    | @cons v' vs' d ds rv rr =>
      refine ⟨_, _, rfl, ρ, env, S, d, e, s, rv, ?_⟩
      unfold sCons at h
      dsimp only at h
      cases q : f d env S with
      | ok e1 S1 =>
        rw [q] at h
        exact fun σ' ρ' H' st sr er => ⟨ρ', e1, S1, ds, er, sr, rr.mono st, PostG.later h st⟩
      | exc c S1 => rw [q] at h; exact h.elim
      | err => rw [q] at h; exact h.elim
theorem gx_tup {es : List Expr} {k : Nat} {g : DGs} {n : Nat} (hc : X.calm = true) (h : GsX X raw es g)
    (hn : (assignEach es X.env).length = n := by rfl) (hst : (assignEach es X.env).findIdx? (·.1) = none := by rfl) : GX X raw (.Tuple es k pos) (sTup n g) :=
  PG.imp (pg_tup hc h hn hst) fun v σ H Q ⟨ρ, env, S, d, e, s, r, h⟩ => by
    unfold sTup at h
    split at h
    · rename_i ds
      split at h
      · rename_i hl
        cases r with
        | tup hq l => exact ⟨_, _, rfl, hq, by rw [l.length]; exact hl, ρ, env, S, ds, e, s, l, h⟩
      · exact h.elim
    · exact h.elim
def rSetA : V → V → V → Hp → (Hp → Prop) → Prop := fun o i v H Q => rSetL o i v H Q ∨ ∃ a H', o = .ref a ∧ DPut H a i v H' ∧ Q H'
theorem set_any (hu : X.A.units + 1 < cLine) : PSet X rSetA := by
  intro pins s σ H o i v ov iv u Q I ro ri rv h
  rcases h with h | ⟨a, H', rfl, g, q⟩
  · exact set_list pins s σ H o i v ov iv u Q I ro ri rv h
  · cases ro
    exact d_setItem hu I g ri rv fun s' I' => ⟨H', I', q⟩
theorem post_setI {K : Fg} {mg : Mg} {ρ : List Addr} {H : Hp} {S : Sto} {o i v : V} {d1 d2 d3 : D} {Q : Hp → Prop} (s : SR K mg ρ H S) (ro : Rep K ρ H o d1) (ri : Rep K ρ H i d2) (rv : Rep K ρ H v d3) {S' : Sto}
    (h : setI d1 d2 d3 S = .ok () S') (hq : ∀ H', Stp ρ H ρ H' → SR K mg ρ H' S' → Q H') : rSetA o i v H Q := by
  unfold setI at h
  split at h
  · cases ro with
    | ref hn =>
      split at h
      · rename_i ds hS
        obtain ⟨xs, hx, l⟩ := s.ob _ _ _ hS hn
        split at h
        · cases ri
          split at h
          · rename_i j ej
            cases h
            exact .inl ⟨_, xs, _, j, rfl, rfl, hx, by rw [l.length]; exact ej, hq _ (wr s hn) (s.write hn ⟨_, hx, trivial⟩ ⟨_, upd_same, (RepL.set rv j l).mono (wr s hn)⟩)⟩
          · cases h
        · cases h
      · rename_i kvs hS
        obtain ⟨ks, hx, l⟩ := s.ob _ _ _ hS hn
        split at h
        · rename_i hk
          cases h
          obtain ⟨k, rfl, rfl⟩ := key_of_rep ri hk.1
          exact .inr ⟨_, _, rfl, DPut.k hx (by rw [l.length, lim_eq]; exact hk.2), hq _ (wr s hn) (s.write hn ⟨_, hx, trivial⟩ ⟨_, upd_same, (l.put rv).mono (wr s hn)⟩)⟩
        · cases h
      · cases h
  · cases h
abbrev W0 : WX := fun _ _ _ _ => False
theorem gx_sub {o i : Expr} {fo fi : DE} (hu : X.A.units + 1 < cLine) (ho : EX X raw W0 o fo) (hi : EX X raw W0 i fi)
    (ha : ∀ v, assign (.Subscript o i pos) X.env v = (do
      let ov ← holding [v] (eval o X.env)
      let iv ← holding [v, ov] (eval i X.env)
      standAt pos
      holding [v, ov, iv] (setItem ov iv v)
      release [v, ov, iv] []) := by intro _; rfl) : GX X raw (.Subscript o i pos) (sSub fo fi) :=
  PG.imp (pg_sub ho hi (set_any hu) ha) fun v σ H Q ⟨ρ, env, S, d, e, s, r, h⟩ => by
    unfold sSub at h
    refine ⟨ρ, env, S, e, s, ?_⟩
    cases q : fo env S with
    | ok d1 S1 =>
      rw [q] at h
      intro o1 ρ1 H1 st1 s1 r1
      refine ⟨ρ1, env, S1, e.mono st1, s1, ?_⟩
      have h1 := PostG.later h st1
      simp only [noEx, R.bind_ok] at h1
      cases q2 : fi env S1 with
      | ok d2 S2 =>
        rw [q2] at h1
        intro i2 ρ2 H2 st2 s2 r2
        have h2 := PostG.later h1 st2
        simp only [noEx, R.bind_ok] at h2
        cases q3 : setI d1 d2 d S2 with
        | ok u S3 =>
          rw [q3] at h2
          exact post_setI s2 (r1.mono st2) r2 ((r.mono st1).mono st2) q3 fun H' st3 s3 => h2 σ ρ2 H' st3 s3 (((e.mono st1).mono st2).mono st3)
        | exc c S3 => rw [q3] at h2; exact h2.elim
        | err => rw [q3] at h2; exact h2.elim
      | exc c S2 => rw [q2] at h1; exact h1.elim
      | err => rw [q2] at h1; exact h1.elim
    | exc c S1 => rw [q] at h; exact h.elim
    | err => rw [q] at h; exact h.elim
def asFl (env : Env) : R Env → Fl
  | .ok e S => .nx e S
  | .exc c S => .err
  | .err => .err
def dAsg (f : DE) (g : DG) : DS := fun env S => thenS (f env S) env fun d S1 => asFl env (g d env S1)
theorem post_asFl {K : Fg} {mg : Mg} {ρ : List Addr} {H : Hp} {env : Env} {r : R Env} {D : Ends} (h : PostS K mg raw W ρ H (asFl env r) D) : PostG K mg raw ρ H r D.nx := by
  cases r with
  | ok e S => exact h
  | exc c S => exact h.elim
  | err => exact h.elim
theorem sx_asg {tg e : Expr} {fe : DE} {g : DG} (he : EX X raw W e fe) (hg : GX X raw tg g) (hs : swapsWithSole [tg] e pos.line X.env = pure false := by rfl) (hw : swappedStores [tg] e X.env = pure none := by rfl)
    (h1 : (assignEach [tg] X.env).map (·.2) = [assign tg X.env] := by rfl) : SX X raw W (.Assign [tg] e pos) (dAsg fe g) :=
  PS.imp (ps_asg he hg hs hw h1) fun σ H D ⟨ρ, env, S, e, s, h⟩ => tG_thenS e s h fun d S1 v ρ1 H1 st e1 s1 r1 h1 => ⟨ρ1, env, S1, d, e1, s1, r1, post_asFl h1⟩
end

/-! ### while -/
def dWhileN (c : DT) (b : DS) : Nat → DS
  | 0 => fun _ _ => .err
  | n + 1 => fun env S => thenS (c env S) env fun k S1 => if k = true then (match b env S1 with
    | .nx e S2 => dWhileN c b n e S2
    | .ct e S2 => dWhileN c b n e S2
    | .bk e S2 => .nx e S2
    | r => r) else .nx env S1
section
variable {X : Cx} {raw : List (Nat × V)} {W : WX} {pos : Pos}
theorem sx_while (N : Nat) {c : Expr} {body : List Stmt} {t : DT} {f : DS} (hp : PassesOwn (model X.prog X.w) X.A X.env X.xe) (hc : TX X raw W c t) (hb : BX X raw W body f) : SX X raw W (.While c body [] pos) (dWhileN t f N) :=
  PS.imp (ps_while hp hc hb) fun σ H D ⟨ρ, env, S, e, s, h⟩ => by
    refine ⟨fun m σ H => ∃ ρ env S, ER X.K raw ρ H env σ ∧ SR X.K X.mg ρ H S ∧ PostS X.K X.mg raw W ρ H (dWhileN t f m env S) D, ⟨N, ρ, env, S, e, s, h⟩, ?_⟩
    rintro m σ H ⟨ρ, env, S, e, s, h⟩
    cases m with
    | zero => exact h.elim
    | succ m =>
      refine tG_thenS e s h fun k S1 v ρ1 H1 st e1 s1 r1 h1 => ?_
      cases r1
      by_cases hk : k = true
      · rw [if_pos hk] at h1 ⊢
        refine ⟨fun σ' H' => ∃ ρ env S, ER X.K raw ρ H' env σ' ∧ SR X.K X.mg ρ H' S ∧ PostS X.K X.mg raw W ρ H' (dWhileN t f m env S) D, fun σ' H' q => ⟨m, Nat.lt_succ_self _, q⟩, ρ1, env, S1, e1, s1, ?_⟩
        cases q : f env S1 with
        | nx e2 S2 => rw [q] at h1; exact fun σ' ρ' H' st sr er => ⟨ρ', e2, S2, er, sr, PostS.later h1 st⟩
        | ct e2 S2 => rw [q] at h1; exact fun σ' ρ' H' st sr er => ⟨ρ', e2, S2, er, sr, PostS.later h1 st⟩
        | bk e2 S2 => rw [q] at h1; exact h1
        | rt d S2 => rw [q] at h1; exact h1
        | exc c e2 S2 => rw [q] at h1; exact h1
        | err => rw [q] at h1; exact h1
      · rw [if_neg hk] at h1 ⊢
        exact h1 σ ρ1 H1 (Stp.refl _ _) s1 e1
end

/-! ### what is gone through -/
/-- the items, and an object of the store that has to stay -/
structure ItD where
  items : List D
  guard : List (Nat × O)
def Grd (g : List (Nat × O)) (S : Sto) : Prop := ∀ p ∈ g, S[p.1]? = some p.2
instance (g : List (Nat × O)) (S : Sto) : Decidable (Grd g S) := by unfold Grd; infer_instance
structure Wk (K : Fg) (mg : Mg) (J : It) (ρ0 : List Addr) (H0 : Hp) (it : ItD) : Prop where
  go : ∀ i H ρ S, i < it.items.length → Stp ρ0 H0 ρ H → SR K mg ρ H S → Grd it.guard S → J.go i H
  stop : ∀ i H ρ S, it.items.length ≤ i → Stp ρ0 H0 ρ H → SR K mg ρ H S → Grd it.guard S → J.stop i H
  yld : ∀ i H ρ S x H', i < it.items.length → Stp ρ0 H0 ρ H → SR K mg ρ H S → Grd it.guard S → J.yld i H x H' → ∃ d, it.items[i]? = some d ∧ Rep K ρ H' x d ∧ Stp ρ H ρ H' ∧ SR K mg ρ H' S
abbrev DI := Env → Sto → R ItD
def PostI (K : Fg) (mg : Mg) (W : WX) (ρ : List Addr) (H : Hp) (σ : L2.St) (r : R ItD) (Q : It → Hp → Prop) : Prop :=
  match r with
  | .ok it S' => ∀ J ρ' H', Stp ρ H ρ' H' → SR K mg ρ' H' S' → Wk K mg J ρ' H' it → Q J H'
  | .exc c S' => ∀ C ρ' H', mg c = some (.ref C) → Stp ρ H ρ' H' → SR K mg ρ' H' S' → W (.ref C) none σ H'
  | .err => False
def tI (K : Fg) (mg : Mg) (raw : List (Nat × V)) (W : WX) (f : DI) : TI := fun σ H R => ∃ ρ env S, ER K raw ρ H env σ ∧ SR K mg ρ H S ∧ PostI K mg W ρ H σ (f env S) R
theorem PI.imp {X : Cx} {tg e : Expr} {t t' : TI} (h : PI X tg e t) (q : ∀ σ H Q, t' σ H Q → t σ H Q) : PI X tg e t' := ⟨fun pins s σ H Q I z => h.run pins s σ H Q I (q σ H Q z)⟩
abbrev IX (X : Cx) (raw : List (Nat × V)) (W : WX) (tg e : Expr) (f : DI) : Prop := PI X tg e (tI X.K X.mg raw W f)
theorem PostI.later {K : Fg} {mg : Mg} {W : WX} {ρ ρ1 : List Addr} {H H1 : Hp} {σ : L2.St} {r : R ItD} {Q : It → Hp → Prop} (h : PostI K mg W ρ H σ r Q) (s : Stp ρ H ρ1 H1) : PostI K mg W ρ1 H1 σ r Q := by
  cases r with
  | ok d S' => exact fun v ρ' H' s' => h v ρ' H' (s.trans s')
  | exc c S' => exact fun C ρ' H' g s' => h C ρ' H' g (s.trans s')
  | err => exact h
theorem tG_bindI {α β : Type} {K : Fg} {mg : Mg} {raw : List (Nat × V)} {W : WX} {ρ : List Addr} {H : Hp} {σ : L2.St} {rep : List Addr → Hp → β → α → Prop} {f : Env → Sto → R α} {k : α → Sto → R ItD} {Q' : β → Hp → Prop} {Q : It → Hp → Prop} {env : Env} {S : Sto} (e : ER K raw ρ H env σ) (s : SR K mg ρ H S)
    (h : PostI K mg W ρ H σ ((f env S).bind k) Q)
    (hk : ∀ d S1 v ρ1 H1, Stp ρ H ρ1 H1 → ER K raw ρ1 H1 env σ → SR K mg ρ1 H1 S1 → rep ρ1 H1 v d → PostI K mg W ρ1 H1 σ (k d S1) Q → Q' v H1) : tG K mg raw W rep f σ H Q' := by
  refine ⟨ρ, env, S, e, s, ?_⟩
  cases hf : f env S with
  | ok d S1 =>
    rw [hf] at h
    exact fun v ρ1 H1 st sr r => hk d S1 v ρ1 H1 st (e.mono st) sr r (PostI.later h st)
  | exc c S1 => rw [hf] at h; exact h
  | err => rw [hf] at h; exact h
section
variable {K : Fg} {mg : Mg} {ρ : List Addr} {H : Hp}
theorem wk_tup {a : Addr} {xs : List V} {ds : List D} (hq : SqT K H a xs) (l : RepL K ρ H xs ds) : Wk K mg (Itt K a) ρ H ⟨ds, []⟩ where
  go := fun i H' ρ' S hi st s g => ⟨xs, xs[i]'(by rw [l.length]; exact hi), st.sqT hq, by simp⟩
  stop := fun i H' ρ' S hi st s g => ⟨xs, st.sqT hq, by rw [l.length]; exact hi⟩
  yld := fun i H' ρ' S x H2 hi st s g ⟨e, y⟩ => by
    subst e
    have hx := y xs (st.sqT hq)
    obtain ⟨v, q, r⟩ := l.get (List.getElem?_eq_getElem hi)
    rw [hx] at q; cases q
    exact ⟨_, List.getElem?_eq_getElem hi, r.mono st, Stp.refl _ _, s⟩
theorem wk_fz {a : Addr} {xs : List V} {ds : List D} (hq : FzL K H a xs) (l : RepL K ρ H xs ds) : Wk K mg (Itl K a) ρ H ⟨ds, []⟩ where
  go := fun i H' ρ' S hi st s g => ⟨xs, xs[i]'(by rw [l.length]; exact hi), (st.fz hq).sq, by simp⟩
  stop := fun i H' ρ' S hi st s g => ⟨xs, (st.fz hq).sq, by rw [l.length]; exact hi⟩
  yld := fun i H' ρ' S x H2 hi st s g ⟨e, y⟩ => by
    subst e
    have hx := y xs (st.fz hq).sq
    obtain ⟨v, q, r⟩ := l.get (List.getElem?_eq_getElem hi)
    rw [hx] at q; cases q
    exact ⟨_, List.getElem?_eq_getElem hi, r.mono st, Stp.refl _ _, s⟩
theorem wk_lst {a : Addr} {n : Nat} {ds : List D} (hn : ρ[n]? = some a) : Wk K mg (Itl K a) ρ H ⟨ds, [(n, .lst ds)]⟩ where
  go := fun i H' ρ' S hi st s g => by
    obtain ⟨xs, hx, l⟩ := s.ob _ _ _ (g (n, _) List.mem_cons_self) (st.at hn)
    exact ⟨xs, xs[i]'(by rw [l.length]; exact hi), .of hx, by simp⟩
  stop := fun i H' ρ' S hi st s g => by
    obtain ⟨xs, hx, l⟩ := s.ob _ _ _ (g (n, _) List.mem_cons_self) (st.at hn)
    exact ⟨xs, .of hx, by rw [l.length]; exact hi⟩
  yld := fun i H' ρ' S x H2 hi st s g ⟨e, y⟩ => by
    subst e
    obtain ⟨xs, hx, l⟩ := s.ob _ _ _ (g (n, _) List.mem_cons_self) (st.at hn)
    have hx' := y xs (.of hx)
    obtain ⟨v, q, r⟩ := l.get (List.getElem?_eq_getElem hi)
    rw [hx'] at q; cases q
    exact ⟨_, List.getElem?_eq_getElem hi, r, Stp.refl _ _, s⟩
end
/-- a list or a tuple, gone through -/
def itOf (x : D) (S : Sto) : R ItD := match x with
  | .scr ds => .ok ⟨ds, []⟩ S
  | .ref n => match S[n]? with
    | some (.lst ds) => .ok ⟨ds, [(n, .lst ds)]⟩ S
    | _ => .err
  | _ => .err
def itOfT (x : D) (S : Sto) : R ItD := match x with
  | .tup ds => .ok ⟨ds, []⟩ S
  | _ => .err
def dIt (f : DE) : DI := fun env S => (f env S).bind itOf
def dItT (f : DE) : DI := fun env S => (f env S).bind itOfT
def strs1 (z : Str) : List D := z.cps.toList.map fun c => .str ⟨#[c]⟩
def dItS (f : DE) : DI := fun env S => (f env S).bind fun x S1 => match x with
  | .str z => .ok ⟨strs1 z, []⟩ S1
  | _ => .err
def rangeD (lo : Int) (n : Nat) : List D := (List.range n).map fun i => .int (lo + (i : Nat))
def dRange1 (fs : DA) : DI := fun env S => (fs env S).bind fun xs S1 => match xs with
  | [.int j] => if -(2 ^ 62) ≤ j ∧ j < 2 ^ 62 then .ok ⟨rangeD 0 j.toNat, []⟩ S1 else .err
  | _ => .err
def dRange2 (fs : DA) : DI := fun env S => (fs env S).bind fun xs S1 => match xs with
  | [.int i, .int j] => if -(2 ^ 62) ≤ i ∧ i < 2 ^ 62 ∧ -(2 ^ 62) ≤ j ∧ j < 2 ^ 62 then .ok ⟨rangeD i (j - i).toNat, []⟩ S1 else .err
  | _ => .err
section
variable {X : Cx} {raw : List (Nat × V)} {W : WX} {pos p : Pos} {tg e a b : Expr} {f : DE} {fs : DA}
theorem ix_list (he : EX X raw W e f) : IX X raw W tg e (dIt f) :=
  PI.imp (pi_list he) fun σ H Q ⟨ρ, env, S, e, s, h⟩ => tG_bindI e s h fun d S1 v ρ1 H1 st e1 s1 r1 h1 => by
    unfold itOf at h1
    split at h1
    · cases r1 with
      | scr hq l => exact ⟨_, rfl, ⟨_, hq.sq⟩, h1 _ ρ1 H1 (Stp.refl _ _) s1 (wk_fz hq l)⟩
    · cases r1 with
      | ref hn =>
        split at h1
        · rename_i ds hS
          obtain ⟨xs, hx, l⟩ := s1.ob _ _ _ hS hn
          exact ⟨_, rfl, ⟨_, .of hx⟩, h1 _ ρ1 H1 (Stp.refl _ _) s1 (wk_lst hn)⟩
        · exact h1.elim
    · exact h1.elim
theorem ix_tuple (he : EX X raw W e f) : IX X raw W tg e (dItT f) :=
  PI.imp (pi_tup he) fun σ H Q ⟨ρ, env, S, e, s, h⟩ => tG_bindI e s h fun d S1 v ρ1 H1 st e1 s1 r1 h1 => by
    unfold itOfT at h1
    split at h1
    · cases r1 with
      | tup hq l => exact ⟨_, rfl, ⟨_, hq⟩, h1 _ ρ1 H1 (Stp.refl _ _) s1 (wk_tup hq l)⟩
    · exact h1.elim
theorem ix_text (he : EX X raw W e f) : IX X raw W tg e (dItS f) :=
  PI.imp (pi_str he) fun σ H Q ⟨ρ, env, S, e, s, h⟩ => tG_bindI e s h fun d S1 v ρ1 H1 st e1 s1 r1 h1 => by
    split at h1
    · rename_i z
      cases r1
      have hl : (strs1 z).length = z.cps.size := by simp [strs1]
      refine ⟨z, rfl, h1 _ ρ1 H1 (Stp.refl _ _) s1 ⟨fun i H ρ S hi _ _ _ => (by rw [← hl]; exact hi : i < z.cps.size), fun i H ρ S hi _ _ _ => (by rw [← hl]; exact hi : z.cps.size ≤ i), fun i H ρ S x H' hi st s g y => ?_⟩⟩
      obtain ⟨e, c, hc, rfl⟩ := y
      subst e
      refine ⟨.str ⟨#[c]⟩, ?_, .str _, Stp.refl _ _, s⟩
      simp only [strs1, List.getElem?_map, Array.getElem?_toList, hc, Option.map_some]
    · exact h1.elim
theorem wk_range {K : Fg} {mg : Mg} {ρ : List Addr} {H : Hp} {lo : Int} {n : Nat} : Wk K mg (Itr lo n) ρ H ⟨rangeD lo n, []⟩ where
  go := fun i H' ρ' S hi st s g => (by simpa [rangeD] using hi : i < n)
  stop := fun i H' ρ' S hi st s g => (by simpa [rangeD] using hi : n ≤ i)
  yld := fun i H' ρ' S x H2 hi st s g ⟨e, y⟩ => by
    subst e; subst y
    have hi' : i < n := by simpa [rangeD] using hi
    refine ⟨.int (lo + i), ?_, .int _, Stp.refl _ _, s⟩
    simp [rangeD, hi']
theorem ix_range1 (hg : Gl X "range") (hm : X.mg "range" = none) (ha : AX X raw W [a] fs) (hs : starEach [a] X.env = [(false, eval a X.env)] := by rfl) : IX X raw W tg (.Call (.Name "range" p) [a] [] pos) (dRange1 fs) :=
  PI.imp (pi_range1 hg hm ha hs) fun σ H Q ⟨ρ, env, S, e, s, h⟩ => tG_bindI e s h fun d S1 v ρ1 H1 st e1 s1 r1 h1 => by
    split at h1
    · rename_i j
      cases r1 with
      | cons r t =>
        cases t; cases r
        split at h1
        · rename_i hj
          exact ⟨j, rfl, hj.1, hj.2, h1 _ ρ1 H1 (Stp.refl _ _) s1 wk_range⟩
        · exact h1.elim
    · exact h1.elim
theorem ix_range2 (hg : Gl X "range") (hm : X.mg "range" = none) (ha : AX X raw W [a, b] fs) (hs : starEach [a, b] X.env = [(false, eval a X.env), (false, eval b X.env)] := by rfl) (hs2 : starEach [b] X.env = [(false, eval b X.env)] := by rfl) :
    IX X raw W tg (.Call (.Name "range" p) [a, b] [] pos) (dRange2 fs) :=
  PI.imp (pi_range2 hg hm ha hs hs2) fun σ H Q ⟨ρ, env, S, e, s, h⟩ => tG_bindI e s h fun d S1 v ρ1 H1 st e1 s1 r1 h1 => by
    split at h1
    · rename_i i j
      cases r1 with
      | cons r t =>
        cases t with
        | cons r2 t =>
          cases t; cases r; cases r2
          split at h1
          · rename_i hj
            exact ⟨i, j, rfl, hj, h1 _ ρ1 H1 (Stp.refl _ _) s1 wk_range⟩
          · exact h1.elim
    · exact h1.elim
end

/-! ### for -/
def forL (g : List (Nat × O)) (t : DG) (b : DS) : List D → DS
  | [] => fun env S => if Grd g S then .nx env S else .err
  | d :: r => fun env S => if Grd g S then (match t d env S with
    | .ok e1 S1 => match b e1 S1 with
      | .nx e2 S2 => forL g t b r e2 S2
      | .ct e2 S2 => forL g t b r e2 S2
      | .bk e2 S2 => .nx e2 S2
      | q => q
    | _ => .err) else .err
def dFor (fi : DI) (t : DG) (b : DS) : DS := fun env S => thenS (fi env S) env fun it S1 => forL it.guard t b it.items env S1
section
variable {X : Cx} {raw : List (Nat × V)} {W : WX} {pos : Pos}
theorem sx_for {tg iter : Expr} {body : List Stmt} {fi : DI} {t : DG} {f : DS} (hp : PassesOwn (model X.prog X.w) X.A X.env X.xe) (hc : X.calm = true) (hi : IX X raw W tg iter fi) (hg : GX X raw tg t) (hb : BX X raw W body f)
    (hs : ∀ x, foldedSetIterable iter X.env x = pure x := by intro _; rfl) : SX X raw W (.For tg iter body [] pos) (dFor fi t f) :=
  PS.imp (ps_for hp hc hi hg hb hs) fun σ H D ⟨ρ, env, S, e, s, h⟩ => by
    refine ⟨ρ, env, S, e, s, ?_⟩
    unfold dFor at h
    cases q : fi env S with
    | err => rw [q] at h; exact h
    | exc c S1 =>
      rw [q] at h
      exact fun C ρ' H' gc st sr => h C σ ρ' H' gc st sr (e.mono st)
    | ok it S1 =>
      rw [q] at h
      intro J ρ1 H1 st1 s1 wk
      have h1 := PostS.later h st1
      simp only [thenS_ok] at h1
      refine ⟨fun i m σ H => m = it.items.length - i ∧ i ≤ it.items.length ∧ ∃ ρ env S, ER X.K raw ρ H env σ ∧ SR X.K X.mg ρ H S ∧ Stp ρ1 H1 ρ H ∧ PostS X.K X.mg raw W ρ H (forL it.guard t f (it.items.drop i) env S) D,
        ⟨_, rfl, Nat.zero_le _, ρ1, env, S1, e.mono st1, s1, Stp.refl _ _, by simpa using h1⟩, ?_⟩
      rintro i m σ2 H2 ⟨rfl, hi, ρ2, env2, S2, e2, s2, st2, h2⟩
      by_cases hlt : i < it.items.length
      · rw [List.drop_eq_getElem_cons hlt] at h2
        unfold forL at h2
        by_cases hg : Grd it.guard S2
        · rw [if_pos hg] at h2
          refine .inr ⟨wk.go i H2 ρ2 S2 hlt st2 s2 hg, fun σ' H' => ∃ ρ env S, ER X.K raw ρ H' env σ' ∧ SR X.K X.mg ρ H' S ∧ Stp ρ1 H1 ρ H' ∧ PostS X.K X.mg raw W ρ H' (forL it.guard t f (it.items.drop (i + 1)) env S) D,
            fun σ' H' w => ⟨it.items.length - (i + 1), by omega, rfl, hlt, w⟩, fun x H' y => ?_⟩
          obtain ⟨d, ed, r3, st3, s3⟩ := wk.yld i H2 ρ2 S2 x H' hlt st2 s2 hg y
          have ed' : it.items[i] = d := by rw [List.getElem?_eq_getElem hlt] at ed; exact Option.some.inj ed
          rw [ed'] at h2
          refine ⟨ρ2, env2, S2, d, e2.mono st3, s3, r3, ?_⟩
          cases q2 : t d env2 S2 with
          | ok e4 S4 =>
            rw [q2] at h2
            intro σ4 ρ4 H4 st4 s4 er4
            have st14 := (st2.trans st3).trans st4
            refine ⟨ρ4, e4, S4, er4, s4, ?_⟩
            have h4 := PostS.later (PostS.later h2 st3) st4
            dsimp only at h4
            cases q3 : f e4 S4 with
            | nx e5 S5 => rw [q3] at h4; exact fun σ' ρ' H' st sr er => ⟨ρ', e5, S5, er, sr, st14.trans st, PostS.later h4 st⟩
            | ct e5 S5 => rw [q3] at h4; exact fun σ' ρ' H' st sr er => ⟨ρ', e5, S5, er, sr, st14.trans st, PostS.later h4 st⟩
            | bk e5 S5 => rw [q3] at h4; exact h4
            | rt d S5 => rw [q3] at h4; exact h4
            | exc c e5 S5 => rw [q3] at h4; exact h4
            | err => rw [q3] at h4; exact h4
          | exc c S4 => rw [q2] at h2; exact h2.elim
          | err => rw [q2] at h2; exact h2.elim
        · rw [if_neg hg] at h2; exact h2.elim
      · have hd : it.items.drop i = [] := List.drop_eq_nil_of_le (Nat.le_of_not_lt hlt)
        rw [hd] at h2
        unfold forL at h2
        by_cases hg : Grd it.guard S2
        · rw [if_pos hg] at h2
          exact .inl ⟨wk.stop i H2 ρ2 S2 (Nat.le_of_not_lt hlt) st2 s2 hg, h2 σ2 ρ2 H2 (Stp.refl _ _) s2 e2⟩
        · rw [if_neg hg] at h2; exact h2.elim
end
end RL

namespace RL
open PySem PySem.Spec PyProof.Rows L2

/-! ### comprehensions -/
def wipeE (env : Env) : List Nat → Env
  | [] => env
  | v :: vs => (wipeE env vs).set v none
theorem wipeE_length (env : Env) : ∀ vs, (wipeE env vs).length = env.length
  | [] => rfl
  | v :: vs => by unfold wipeE; rw [List.length_set, wipeE_length]
theorem ER.wipe {K : Fg} {raw : List (Nat × V)} {ρ : List Addr} {H : Hp} {env : Env} {σ : L2.St} (e : ER K raw ρ H env σ) : ∀ vs, ER K [] ρ H (wipeE env vs) (L2.wipe σ vs)
  | [] => ⟨e.len, e.at_, fun _ h => nomatch h⟩
  | v :: vs => by
    have ih := ER.wipe e vs
    unfold wipeE L2.wipe
    refine ⟨by rw [List.length_set, List.length_set]; exact ih.len, fun i d h => ?_, fun _ h => nomatch h⟩
    by_cases hi : i = v
    · subst hi
      by_cases hl : i < (wipeE env vs).length
      · rw [List.getElem?_set_self hl] at h; cases h
      · rw [List.getElem?_eq_none (by simpa using hl)] at h; cases h
    · rw [List.getElem?_set_ne (Ne.symm hi)] at h ⊢
      exact ih.at_ i d h
theorem wipe_get (σ : L2.St) : ∀ (vs : List Nat) (j : Nat), (L2.wipe σ vs)[j]? = if j ∈ vs then (if j < σ.length then some none else none) else σ[j]?
  | [], j => by simp [L2.wipe]
  | v :: vs, j => by
    unfold L2.wipe
    by_cases hj : j = v
    · subst hj
      rw [if_pos (List.mem_cons_self ..)]
      by_cases hl : j < σ.length
      · rw [List.getElem?_set_self (by rw [wipe_length]; exact hl), if_pos hl]
      · rw [if_neg hl, List.getElem?_eq_none (by rw [List.length_set, wipe_length]; omega)]
    · rw [List.getElem?_set_ne (Ne.symm hj), wipe_get σ vs j]
      simp [hj]
/-- alike but for the slots vs -/
def AlikeBut (vs : List Nat) (σ τ : L2.St) : Prop := σ.length = τ.length ∧ ∀ j, j ∉ vs → σ[j]? = τ[j]?
theorem wipe_alike {vs : List Nat} {σ τ : L2.St} (h : AlikeBut vs σ τ) : L2.wipe σ vs = L2.wipe τ vs := by
  refine List.ext_getElem? fun j => ?_
  rw [wipe_get, wipe_get, h.1]
  by_cases hj : j ∈ vs
  · rw [if_pos hj, if_pos hj]
  · rw [if_neg hj, if_neg hj, h.2 j hj]
theorem alike_wipe (vs : List Nat) (σ : L2.St) : AlikeBut vs (L2.wipe σ vs) σ := ⟨wipe_length _ _, fun j hj => by rw [wipe_get, if_neg hj]⟩
theorem AlikeBut.set {vs : List Nat} {σ τ : L2.St} (h : AlikeBut vs σ τ) {i : Nat} (hi : i ∈ vs) (v : Option V) : AlikeBut vs (σ.set i v) τ := ⟨by rw [List.length_set]; exact h.1, fun j hj => by
  rw [List.getElem?_set_ne (fun e => hj (by rw [← e]; exact hi))]; exact h.2 j hj⟩
/-- a comprehension's target: one name, or some -/
abbrev CT := D → Env → Option Env
def cName (i : Nat) : CT := fun d env => some (env.set i (some d))
def setAll : List Nat → List D → Env → Option Env
  | [], [], env => some env
  | i :: is, d :: ds, env => setAll is ds (env.set i (some d))
  | _, _, _ => none
def cTup (is : List Nat) : CT := fun d env => match d with
  | .tup ds => setAll is ds env
  | _ => none
def gSlots : List Nat → TGs
  | [] => gNil
  | i :: is => gCons (gName i) (gSlots is)
def gTarget (K : Fg) (c : Nat ⊕ List Nat) : TG := match c with
  | .inl i => gName i
  | .inr is => gTup K is.length (gSlots is)
def cTarget (c : Nat ⊕ List Nat) : CT := match c with
  | .inl i => cName i
  | .inr is => cTup is
def slotsOf : Nat ⊕ List Nat → List Nat
  | .inl i => [i]
  | .inr is => is
theorem slots_run {K : Fg} {ρ : List Addr} {H : Hp} {vs : List Nat} {τ : L2.St} : ∀ {is : List Nat} {xs : List V} {ds : List D} {env e1 : Env} {σ : L2.St} {Q : L2.St → Hp → Prop}, (∀ i ∈ is, i ∈ vs) → RepL K ρ H xs ds → ER K [] ρ H env σ → AlikeBut vs σ τ →
    setAll is ds env = some e1 → (∀ σ', ER K [] ρ H e1 σ' → AlikeBut vs σ' τ → Q σ' H) → gSlots is xs σ H Q
  | [], _, _, env, e1, σ, Q, _, .nil, e, a, h, q => by cases h; exact ⟨rfl, q σ e a⟩
  | [], _, _, env, e1, σ, Q, _, .cons _ _, e, a, h, q => by cases h
  | i :: is, _, _, env, e1, σ, Q, _, .nil, e, a, h, q => by cases h
  | i :: is, _, _, env, e1, σ, Q, hv, .cons r rr, e, a, h, q => by
    refine ⟨_, _, rfl, ?_⟩
    exact slots_run (fun j hj => hv j (List.mem_cons_of_mem _ hj)) rr (e.set r noraw) (a.set (hv i (List.mem_cons_self ..)) _) h q
theorem target_run {K : Fg} {ρ : List Addr} {H : Hp} {vs : List Nat} {τ : L2.St} {c : Nat ⊕ List Nat} {x : V} {d : D} {env e1 : Env} {σ : L2.St} {Q : L2.St → Hp → Prop} (hv : ∀ i ∈ slotsOf c, i ∈ vs) (r : Rep K ρ H x d) (e : ER K [] ρ H env σ) (a : AlikeBut vs σ τ)
    (h : cTarget c d env = some e1) (q : ∀ σ', ER K [] ρ H e1 σ' → AlikeBut vs σ' τ → Q σ' H) : gTarget K c x σ H Q := by
  cases c with
  | inl i =>
    cases h
    exact q _ (e.set r noraw) (a.set (hv i (List.mem_cons_self ..)) _)
  | inr is =>
    unfold cTarget cTup at h
    dsimp only at h
    split at h
    · rename_i ds
      cases r with
      | tup hq l =>
        have hl : ∀ {is : List Nat} {ds : List D} {env : Env}, setAll is ds env = some e1 → ds.length = is.length := by
          intro is
          induction is with
          | nil => intro ds env h; cases ds with | nil => rfl | cons _ _ => cases h
          | cons i is ih =>
            intro ds env h
            cases ds with
            | nil => cases h
            | cons d ds => rw [List.length_cons, List.length_cons, ih h]
        exact ⟨_, _, rfl, hq, by rw [l.length]; exact hl h, slots_run hv l e a h q⟩
    · cases h
def lcL (g : List (Nat × O)) (c : CT) (t : DT) (f : DE) (env : Env) : List D → Sto → R (List D)
  | [], S => if Grd g S then .ok [] S else .err
  | d :: r, S => if Grd g S then (match c d env with
    | some e1 => (noEx (t e1 S)).bind fun k S1 => if k = true then (noEx (f e1 S1)).bind fun y S2 => (lcL g c t f env r S2).bind fun ys S3 => .ok (y :: ys) S3 else lcL g c t f env r S1
    | none => .err) else .err
def dLc (c : Nat ⊕ List Nat) (vs : List Nat) (fi : DI) (t : DT) (f : DE) : DE := fun env S => (fi env S).bind fun it S1 => if it.items.length ≤ lim then
  (lcL it.guard (cTarget c) t f (wipeE env vs) it.items S1).bind fun ds S2 => .ok (.ref S2.length) (S2 ++ [.lst ds]) else .err
def dYes : DT := fun _ S => .ok true S
theorem noEx_bind_ok {α β : Type} {x : R α} {k : α → Sto → R β} {P : R β → Prop} (h : P ((noEx x).bind k)) (herr : ¬ P .err) : ∃ a S, x = .ok a S ∧ P (k a S) := by
  cases x with
  | ok a S => exact ⟨a, S, rfl, h⟩
  | exc c S => exact (herr h).elim
  | err => exact (herr h).elim
/-- a tracked list that the store does not name yet is taken in -/
theorem SR.adopt {K : Fg} {mg : Mg} {ρ : List Addr} {H : Hp} {S : Sto} {p : Addr} {o : O} (s : SR K mg ρ H S) (hp : p ∉ ρ) (st : Stp ρ H (ρ ++ [p]) H) (r : ORep K mg (ρ ++ [p]) H p o) : SR K mg (ρ ++ [p]) H (S ++ [o]) where
  len := by simp [s.len]
  nd := by
    refine List.nodup_append.mpr ⟨s.nd, by simp, fun a ha b hb => ?_⟩
    obtain rfl := List.mem_singleton.mp hb
    exact fun z => hp (z ▸ ha)
  ob := fun n o' a h1 h2 => by
    by_cases hn : n < S.length
    · rw [List.getElem?_append_left hn] at h1
      rw [List.getElem?_append_left (by rw [s.len]; exact hn)] at h2
      exact (s.ob n o' a h1 h2).mono st rfl
    · obtain ⟨q, _⟩ := List.getElem?_eq_some_iff.mp h1
      have e : n = S.length := by simp at q; omega
      subst e
      rw [List.getElem?_append_right (Nat.le_refl _)] at h1
      rw [← s.len, List.getElem?_append_right (Nat.le_refl _)] at h2
      simp at h1 h2
      subst h1; subst h2
      exact r
/-- growing the list of names alone -/
theorem Rep.more {K : Fg} {ρ : List Addr} {H : Hp} {p : Addr} {xs : List V} {ds : List D} (h : RepL K ρ H xs ds) : RepL K (ρ ++ [p]) H xs ds := by
  have go : ∀ {d : D} {v : V}, Rep K ρ H v d → Rep K (ρ ++ [p]) H v d := by
    intro d v r
    induction r using Rep.rec (motive_2 := fun xs ds _ => RepL K (ρ ++ [p]) H xs ds) with
    | non => exact .non
    | bl b => exact .bl b
    | int b => exact .int b
    | str b => exact .str b
    | tup h _ ih => exact .tup h ih
    | scr h _ ih => exact .scr h ih
    | ref h =>
      obtain ⟨q, _⟩ := List.getElem?_eq_some_iff.mp h
      exact .ref (by rw [List.getElem?_append_left q]; exact h)
    | nil => exact .nil
    | cons _ _ ih1 ih2 => exact .cons ih1 ih2
  induction ds generalizing xs with
  | nil => cases h; exact .nil
  | cons d ds ih =>
    cases h with
    | cons r t => exact .cons (go r) (ih t)
theorem Rep.more1 {K : Fg} {ρ : List Addr} {H : Hp} {p : Addr} {x : V} {d : D} (h : Rep K ρ H x d) : Rep K (ρ ++ [p]) H x d := by
  have q := Rep.more (p := p) (.cons h .nil : RepL K ρ H [x] [d])
  cases q with
  | cons r _ => exact r
theorem RepKV.more {K : Fg} {ρ : List Addr} {H : Hp} {p : Addr} : ∀ {ks : List (Key × V)} {kvs : List (D × D)}, RepKV K ρ H ks kvs → RepKV K (ρ ++ [p]) H ks kvs
  | _, _, .nil => .nil
  | _, _, .cons r t => .cons (Rep.more1 r) (RepKV.more t)
theorem SR.adopt' {K : Fg} {mg : Mg} {ρ : List Addr} {H : Hp} {S : Sto} {p : Addr} {o : O} (s : SR K mg ρ H S) (hp : p ∉ ρ) (r : ORep K mg (ρ ++ [p]) H p o) : SR K mg (ρ ++ [p]) H (S ++ [o]) where
  len := by simp [s.len]
  nd := by
    refine List.nodup_append.mpr ⟨s.nd, by simp, fun a ha b hb => ?_⟩
    obtain rfl := List.mem_singleton.mp hb
    exact fun z => hp (z ▸ ha)
  ob := fun n o' a h1 h2 => by
    by_cases hn : n < S.length
    · rw [List.getElem?_append_left hn] at h1
      rw [List.getElem?_append_left (by rw [s.len]; exact hn)] at h2
      have q := s.ob n o' a h1 h2
      cases o' with
      | lst ds => obtain ⟨xs, e, l⟩ := q; exact ⟨xs, e, Rep.more l⟩
      | dict ds => obtain ⟨xs, e, l⟩ := q; exact ⟨xs, e, RepKV.more l⟩
      | ins c fs => obtain ⟨C, dx, gs, g, q, n, l⟩ := q; exact ⟨C, dx, gs, g, q, n, Rep.more l⟩
      | fd ds => obtain ⟨xs, ob, e, l⟩ := q; exact ⟨xs, ob, e, RepKV.more l⟩
    · obtain ⟨q, _⟩ := List.getElem?_eq_some_iff.mp h1
      have e : n = S.length := by simp at q; omega
      subst e
      rw [List.getElem?_append_right (Nat.le_refl _)] at h1
      rw [← s.len, List.getElem?_append_right (Nat.le_refl _)] at h2
      simp at h1 h2
      subst h1; subst h2
      exact r
theorem mono_at {K : Fg} {ρ ρ1 : List Addr} {H H1 : Hp} (s : Stp ρ H ρ1 H1) {xs : List V} {ds : List D} (h : RepL K ρ H xs ds) : RepL K ρ1 H1 xs ds := h.mono s
section
variable {X : Cx} {raw : List (Nat × V)} {W : WX} {pos : Pos}
theorem rep_off {K : Fg} {ρ : List Addr} {H : Hp} {D : Addr} {o o' : HO} (hD : H D = some o) (ht : ∀ xs, o ≠ .tup xs) (hf : ∀ ob u, o ≠ .frz ob u) : Stp ρ (fun b => if b = D then none else H b) ρ (upd H D o') := by
  refine ⟨⟨[], by simp⟩, fun a ha => .inl ha, fun a u _ e => ?_, fun a u v e => ?_, fun a xs e => ?_⟩
  all_goals
    by_cases h : a = D
    · rw [if_pos h] at e; cases e
    · rw [if_neg h] at e; rw [upd_ne h]; exact e
theorem rep_hide {K : Fg} {ρ : List Addr} {H : Hp} {D : Addr} {o : HO} (hD : H D = some o) (ht : ∀ xs, o ≠ .tup xs) (hf : ∀ ob u, o ≠ .frz ob u) : ∀ {d : RL.D} {v : V}, Rep K ρ H v d → Rep K ρ (fun b => if b = D then none else H b) v d := by
  intro d v r
  induction r using Rep.rec (motive_2 := fun xs ds _ => RepL K ρ (fun b => if b = D then none else H b) xs ds) with
  | non => exact .non
  | bl b => exact .bl b
  | int b => exact .int b
  | str b => exact .str b
  | tup h _ ih =>
    refine .tup ?_ ih
    rcases h with (h | ⟨ob, h⟩) | h
    · refine .inl (.inl ?_)
      show (if _ = D then none else H _) = _
      rw [if_neg (fun e => by subst e; rw [hD] at h; exact ht _ (Option.some.inj h))]; exact h
    · refine .inl (.inr ⟨ob, ?_⟩)
      show (if _ = D then none else H _) = _
      rw [if_neg (fun e => by subst e; rw [hD] at h; exact hf _ _ (Option.some.inj h))]; exact h
    · exact .inr h
  | scr h _ ih =>
    refine .scr ?_ ih
    rcases h with ⟨ob, h⟩ | h
    · refine .inl ⟨ob, ?_⟩
      show (if _ = D then none else H _) = _
      rw [if_neg (fun e => by subst e; rw [hD] at h; exact hf _ _ (Option.some.inj h))]; exact h
    · exact .inr h
  | ref h => exact .ref h
  | nil => exact .nil
  | cons _ _ ih1 ih2 => exact .cons ih1 ih2
theorem repL_hide {K : Fg} {ρ : List Addr} {H : Hp} {D : Addr} {o : HO} (hD : H D = some o) (ht : ∀ xs, o ≠ .tup xs) (hf : ∀ ob u, o ≠ .frz ob u) : ∀ {ds : List RL.D} {vs : List V}, RepL K ρ H vs ds → RepL K ρ (fun b => if b = D then none else H b) vs ds
  | [], _, .nil => .nil
  | _ :: _, _, .cons r t => .cons (rep_hide hD ht hf r) (repL_hide hD ht hf t)
/-- a list that the store does not name is written: all data stay -/
theorem repL_upd {K : Fg} {ρ : List Addr} {H : Hp} {D : Addr} {o o' : HO} (hD : H D = some o) (hw : Mut (some o)) {ds : List RL.D} {vs : List V} (r : RepL K ρ H vs ds) : RepL K ρ (upd H D o') vs ds :=
  (repL_hide hD (fun _ h => by subst h; exact hw) (fun _ _ h => by subst h; exact hw) r).mono (rep_off (K := K) hD (fun _ h => by subst h; exact hw) (fun _ _ h => by subst h; exact hw))
theorem rep_upd {K : Fg} {ρ : List Addr} {H : Hp} {D : Addr} {o o' : HO} (hD : H D = some o) (hw : Mut (some o)) {d : RL.D} {v : V} (r : Rep K ρ H v d) : Rep K ρ (upd H D o') v d :=
  (rep_hide hD (fun _ h => by subst h; exact hw) (fun _ _ h => by subst h; exact hw) r).mono (rep_off (K := K) hD (fun _ h => by subst h; exact hw) (fun _ _ h => by subst h; exact hw))
theorem repKV_upd {K : Fg} {ρ : List Addr} {H : Hp} {D : Addr} {o o' : HO} (hD : H D = some o) (hw : Mut (some o)) : ∀ {ks : List (Key × V)} {kvs : List (RL.D × RL.D)}, RepKV K ρ H ks kvs → RepKV K ρ (upd H D o') ks kvs
  | _, _, .nil => .nil
  | _, _, .cons r t => .cons (rep_upd hD hw r) (repKV_upd hD hw t)
theorem SR.updOff {K : Fg} {mg : Mg} {ρ : List Addr} {H : Hp} {S : Sto} {D : Addr} {o o' : HO} (s : SR K mg ρ H S) (hD : H D = some o) (hw : Mut (some o)) (hn : D ∉ ρ) : SR K mg ρ (upd H D o') S :=
  ⟨s.len, s.nd, fun n o a h1 h2 => by
    have ne : a ≠ D := fun e => hn (e ▸ List.mem_of_getElem? h2)
    have q := s.ob n o a h1 h2
    cases o with
    | lst ds => obtain ⟨xs, e, l⟩ := q; exact ⟨xs, (upd_ne ne).trans e, repL_upd hD hw l⟩
    | dict ds => obtain ⟨xs, e, l⟩ := q; exact ⟨xs, (upd_ne ne).trans e, repKV_upd hD hw l⟩
    | ins c fs => obtain ⟨C, dx, gs, g, q, n, l⟩ := q; exact ⟨C, dx, gs, g, (upd_ne ne).trans q, n, repL_upd hD hw l⟩
    | fd ds => obtain ⟨xs, ob, e, l⟩ := q; exact ⟨xs, ob, (upd_ne ne).trans e, repKV_upd hD hw l⟩⟩
theorem ER.updOff {K : Fg} {raw : List (Nat × V)} {ρ : List Addr} {H : Hp} {D : Addr} {o o' : HO} {env : Env} {σ : L2.St} (e : ER K raw ρ H env σ) (hD : H D = some o) (hw : Mut (some o)) : ER K raw ρ (upd H D o') env σ :=
  ⟨e.len, fun i d h => let ⟨v, q, r⟩ := e.at_ i d h; ⟨v, q, rep_upd hD hw r⟩, e.raw⟩
theorem Stp.updNew {ρ ρ1 : List Addr} {H H1 : Hp} (s : Stp ρ1 H1 ρ H) {D : Addr} {o' : HO} (h : H1 D = none) : Stp ρ1 H1 ρ (upd H D o') where
  ext := s.ext
  new := s.new
  old := fun a u ha e => by rw [upd_ne (ne_of_none e h)]; exact s.old a u ha e
  frz := fun a u v e => by rw [upd_ne (ne_of_none e h)]; exact s.frz a u v e
  tup := fun a u e => by rw [upd_ne (ne_of_none e h)]; exact s.tup a u e
theorem Stp.adopt {ρ ρ1 : List Addr} {H H1 : Hp} (s : Stp ρ1 H1 ρ H) {D : Addr} (h : H1 D = none) : Stp ρ1 H1 (ρ ++ [D]) H where
  ext := by
    obtain ⟨l, rfl⟩ := s.ext
    exact ⟨l ++ [D], by rw [List.append_assoc]⟩
  new := fun a ha => (List.mem_append.mp ha).elim (s.new a) fun z => by rw [List.mem_singleton.mp z]; exact .inr h
  old := s.old
  frz := s.frz
  tup := s.tup
theorem lc_run {K : Fg} {mg : Mg} {J : It} {ρ1 : List Addr} {H1 : Hp} {it : ItD} {c : Nat ⊕ List Nat} {vs : List Nat} {t : DT} {f : DE} {env : Env} {σ : L2.St} {S1 : Sto} {Q : VK} (hv : ∀ i ∈ slotsOf c, i ∈ vs) (wk : Wk K mg J ρ1 H1 it) (e : ER K raw ρ1 H1 env σ) (s1 : SR K mg ρ1 H1 S1) (hz : it.items.length ≤ lim)
    (h : Post K mg W ρ1 H1 σ (Rep K) ((lcL it.guard (cTarget c) t f (wipeE env vs) it.items S1).bind fun ds S2 => .ok (.ref S2.length) (S2 ++ [.lst ds])) Q) :
    ∀ D, H1 D = none → ∃ Wi : Nat → Nat → Hp → Prop, (∃ m, Wi 0 m (upd H1 D (.lst []))) ∧ ∀ i m H, Wi i m H →
      (J.stop i H ∧ Q (.ref D) H) ∨ (J.go i H ∧ ∃ Nx : Hp → Prop, (∀ H', Nx H' → ∃ m', m' < m ∧ Wi (i + 1) m' H') ∧ ∀ x H', J.yld i H x H' → gTarget K c x (L2.wipe σ vs) H' fun σ2 H2 => L2.wipe σ2 vs = L2.wipe σ vs ∧ tDT K mg [] W0 t σ2 H2 fun b H3 =>
        if b = true then tD K mg [] W0 f σ2 H3 fun y H4 => ∃ acc, H4 D = some (.lst acc) ∧ acc.length < sizeLine ∧ Nx (upd H4 D (.lst (acc ++ [y]))) else Nx H3) := by
  intro D hD
  let Wi : Nat → Nat → Hp → Prop := fun i m H => m = it.items.length - i ∧ i ≤ it.items.length ∧ ∃ ρ S acc accV, SR K mg ρ H S ∧ Stp ρ1 H1 ρ H ∧ D ∉ ρ ∧ H D = some (.lst accV) ∧ RepL K ρ H accV acc ∧ acc.length ≤ i ∧
    Post K mg W ρ1 H1 σ (Rep K) ((lcL it.guard (cTarget c) t f (wipeE env vs) (it.items.drop i) S).bind fun ds S2 => .ok (.ref S2.length) (S2 ++ [.lst (acc ++ ds)])) Q
  refine ⟨Wi, ⟨_, rfl, Nat.zero_le _, ρ1, S1, [], [], s1.val hD, stp_val hD, s1.fresh hD, upd_same, .nil, Nat.le_refl _, by simpa using h⟩, ?_⟩
  rintro i m H ⟨rfl, hi, ρ, S, acc, accV, s, st, hn, hd, l, hl, h⟩
  by_cases hlt : i < it.items.length
  · rw [List.drop_eq_getElem_cons hlt] at h
    unfold lcL at h
    by_cases hg : Grd it.guard S
    · rw [if_pos hg] at h
      refine .inr ⟨wk.go i H ρ S hlt st s hg, fun H' => Wi (i + 1) (it.items.length - (i + 1)) H', fun H' w => ⟨it.items.length - (i + 1), by omega, w⟩, fun x H' y => ?_⟩
      obtain ⟨d, ed, r3, st3, s3⟩ := wk.yld i H ρ S x H' hlt st s hg y
      have ed' : it.items[i] = d := by rw [List.getElem?_eq_getElem hlt] at ed; exact Option.some.inj ed
      rw [ed'] at h
      have hd3 : H' D = some (.lst accV) := st3.old _ _ hn hd
      cases hc : cTarget c d (wipeE env vs) with
      | none => rw [hc] at h; exact h.elim
      | some e1 =>
        rw [hc] at h
        dsimp only at h
        have st13 := st.trans st3
        refine target_run hv r3 (((e.mono st13)).wipe vs) (alike_wipe vs σ) hc fun σ2 er al => ⟨(wipe_alike al), ρ, e1, S, er, s3, ?_⟩
        cases ht : t e1 S with
        | err => rw [ht] at h; exact h.elim
        | exc c' S' => rw [ht] at h; exact h.elim
        | ok k S4 =>
          rw [ht] at h
          simp only [noEx, R.bind_ok] at h
          intro b ρ4 H4 st4 s4 rb
          cases rb
          have hd4 : H4 D = some (.lst accV) := st4.old _ _ hn hd3
          have hn4 : D ∉ ρ4 := fun hm => (st4.new D hm).elim hn fun z => by rw [hd3] at z; cases z
          have st14 := st13.trans st4
          by_cases hk : k = true
          · rw [if_pos hk] at h ⊢
            refine ⟨ρ4, e1, S4, er.mono st4, s4, ?_⟩
            cases hf : f e1 S4 with
            | err => rw [hf] at h; exact h.elim
            | exc c' S' => rw [hf] at h; exact h.elim
            | ok y5 S5 =>
              rw [hf] at h
              simp only [noEx, R.bind_ok] at h
              intro yv ρ5 H5 st5 s5 r5
              have hd5 : H5 D = some (.lst accV) := st5.old _ _ hn4 hd4
              have hn5 : D ∉ ρ5 := fun hm => (st5.new D hm).elim hn4 fun z => by rw [hd4] at z; cases z
              have st15 := st14.trans st5
              have l5 : RepL K ρ5 H5 accV acc := (l.mono st3).mono (st4.trans st5)
              refine ⟨accV, hd5, ?_, rfl, hlt, ρ5, S5, acc ++ [y5], accV ++ [yv], s5.updOff hd5 trivial hn5, st15.updNew hD, hn5, upd_same, repL_upd hd5 trivial (l5.append (.cons r5 .nil)), by rw [List.length_append, List.length_singleton]; omega, ?_⟩
              · rw [l.length, lim_eq]; omega
              · cases hr : lcL it.guard (cTarget c) t f (wipeE env vs) (it.items.drop (i + 1)) S5 with
                | err => rw [hr] at h; exact h.elim
                | exc c' S' => rw [hr] at h; exact h
                | ok ys S6 =>
                  rw [hr] at h
                  simp only [R.bind_ok] at h ⊢
                  rw [List.append_assoc]
                  exact h
          · rw [if_neg hk] at h ⊢
            exact ⟨rfl, hlt, ρ4, S4, acc, accV, s4, st14, hn4, hd4, (l.mono st3).mono st4, by omega, h⟩
    · rw [if_neg hg] at h; exact h.elim
  · have hdr : it.items.drop i = [] := List.drop_eq_nil_of_le (Nat.le_of_not_lt hlt)
    rw [hdr] at h
    unfold lcL at h
    by_cases hg : Grd it.guard S
    · rw [if_pos hg] at h
      simp only [R.bind_ok, List.append_nil] at h
      refine .inl ⟨wk.stop i H ρ S (Nat.le_of_not_lt hlt) st s hg, ?_⟩
      exact h (.ref D) (ρ ++ [D]) H (st.adopt hD) (s.adopt' hn ⟨accV, hd, Rep.more l⟩) (.ref (by rw [← s.len]; exact at_new _ _))
    · rw [if_neg hg] at h; exact h.elim
theorem tLc_of {tg iter : Expr} {fi : DI} {c : Nat ⊕ List Nat} {vs : List Nat} {t : DT} {f : DE} {σ : L2.St} {H : Hp} {Q : VK} (hv : ∀ i ∈ slotsOf c, i ∈ vs) (h : tD X.K X.mg raw W (dLc c vs fi t f) σ H Q) :
    tLc (tI X.K X.mg raw W fi) (gTarget X.K c) (tDT X.K X.mg [] W0 t) (tD X.K X.mg [] W0 f) vs σ H Q := by
  obtain ⟨ρ, env, S, e, s, h⟩ := h
  refine ⟨ρ, env, S, e, s, ?_⟩
  unfold dLc at h
  cases q : fi env S with
  | err => rw [q] at h; exact h
  | exc c S1 => rw [q] at h; exact h
  | ok it S1 =>
    rw [q] at h
    intro J ρ1 H1 st1 s1 wk
    have h1 := Post.later h st1
    simp only [R.bind_ok] at h1
    by_cases hz : it.items.length ≤ lim
    · rw [if_pos hz] at h1
      exact lc_run hv wk (e.mono st1) s1 hz h1
    · rw [if_neg hz] at h1; exact h1.elim
theorem ex_lc {elt tg iter : Expr} {ifs : List Expr} {scope : Scope} {own : List (Str × Nat)} {fi : DI} {c : Nat ⊕ List Nat} {t : DT} {f : DE} (hc : X.calm = true) (hN : X.N.Nodup) (hi : IX X raw W tg iter fi) (ok : BlkOk X.N X.env.scope scope own)
    (hg : ∀ (s : Shared) (H : Hp) (C : Addr) (cl : List (Str × Addr)) (fp : List Addr), PG (X.blk s H scope (compEnvC scope cl C X.env) fp) tg (gTarget X.K c))
    (ht : ∀ (s : Shared) (H : Hp) (C : Addr) (cl : List (Str × Addr)) (fp : List Addr), PTs (X.blk s H scope (compEnvC scope cl C X.env) fp) ifs (tDT X.K X.mg [] W0 t))
    (he : ∀ (s : Shared) (H : Hp) (C : Addr) (cl : List (Str × Addr)) (fp : List Addr), EX (X.blk s H scope (compEnvC scope cl C X.env) fp) [] W0 elt f)
    (hs : ∀ x, foldedSetIterable iter X.env x = pure x := by intro _; rfl) (hv : ∀ i ∈ slotsOf c, i ∈ own.map (·.2) := by decide) : EX X raw W (.ListComp elt [⟨tg, iter, ifs, 0⟩] scope pos) (dLc c (own.map (·.2)) fi t f) :=
  PE.imp (pe_lc hc hN hi ok hg ht he hs) fun σ H Q h => tLc_of (tg := tg) (iter := iter) hv h
theorem sx_setLc {i : Nat} {y : Str} {py : Pos} {elt tg iter : Expr} {ifs : List Expr} {scope : Scope} {own : List (Str × Nat)} {spos : Pos} {fi : DI} {c : Nat ⊕ List Nat} {t : DT} {f : DE} (hc : X.calm = true) (hN : X.N.Nodup) (hy : X.N[i]? = some y) (hyl : X.env.scope.names.lookup y = some .local)
    (hsw : swapsWith (.ListComp elt [⟨tg, iter, ifs, 0⟩] scope pos) (some (.Name y py)) spos.line X.env = pure true) (hi : IX X raw W tg iter fi) (ok : BlkOk X.N X.env.scope scope own)
    (hg : ∀ (s : Shared) (H : Hp) (C : Addr) (cl : List (Str × Addr)) (fp : List Addr), PG (X.blk s H scope (compEnvC scope cl C X.env) fp) tg (gTarget X.K c))
    (ht : ∀ (s : Shared) (H : Hp) (C : Addr) (cl : List (Str × Addr)) (fp : List Addr), PTs (X.blk s H scope (compEnvC scope cl C X.env) fp) ifs (tDT X.K X.mg [] W0 t))
    (he : ∀ (s : Shared) (H : Hp) (C : Addr) (cl : List (Str × Addr)) (fp : List Addr), EX (X.blk s H scope (compEnvC scope cl C X.env) fp) [] W0 elt f)
    (hs : ∀ x, foldedSetIterable iter X.env x = pure x := by intro _; rfl) (hv : ∀ i ∈ slotsOf c, i ∈ own.map (·.2) := by decide) (hr : ∀ p ∈ raw, p.1 ≠ i := by exact noraw) :
    SX X raw W (.Assign [.Name y py] (.ListComp elt [⟨tg, iter, ifs, 0⟩] scope pos) spos) (dSet i (dLc c (own.map (·.2)) fi t f)) :=
  PS.imp (ps_setLc hc hN hy hyl hsw hi ok hg ht he hs) fun σ H D ⟨ρ, env, S, e, s, h⟩ =>
    tLc_of (tg := tg) (iter := iter) hv (tG_thenS e s h fun d S1 v ρ1 H1 st e1 s1 r1 h1 => h1 _ ρ1 H1 (Stp.refl _ _) s1 (e1.set r1 hr))
/-- the tests of a comprehension -/
theorem txs_nil : PTs X [] (tDT X.K X.mg raw W dYes) := ⟨fun pins s σ H Q I ⟨ρ, env, S, e, sr, h⟩ => pts_nil.run pins s σ H Q I (post_val h sr rfl)⟩
theorem txs_one {c : Expr} {t : DT} (h : TX X raw W c t) : PTs X [c] (tDT X.K X.mg raw W t) := pts_one h
end
end RL

namespace RL
open PySem PySem.Spec PyProof.Rows L2

/-! ### dict displays -/
def pairsE : List (DE × DE) → Env → Sto → R (List (D × D))
  | [], _, S => .ok [] S
  | (k, v) :: r, env, S => (k env S).bind fun x S1 => (v env S1).bind fun y S2 => (pairsE r env S2).bind fun ps S3 => .ok ((x, y) :: ps) S3
def keysOk (ps : List (D × D)) : Bool := ps.all fun p => isKey p.1
def dDict (ps : List (DE × DE)) : DE := fun env S => (pairsE ps env S).bind fun kvs S1 => if keysOk kvs = true ∧ kvs.length ≤ 15 then .ok (.ref S1.length) (S1 ++ [.dict (mergeD [] kvs)]) else .err
section
variable {X : Cx} {raw : List (Nat × V)} {W : WX} {pos : Pos}
/-- the readings of the pairs -/
def trsOf (K : Fg) (mg : Mg) (raw : List (Nat × V)) (W : WX) (ps : List (DE × DE)) : List (TE × TE) := ps.map fun p => (tD K mg raw W p.1, tD K mg raw W p.2)
inductive RepP (K : Fg) (ρ : List Addr) (H : Hp) : List (V × V) → List (D × D) → Prop
  | nil : RepP K ρ H [] []
  | cons {x y : V} {a b : D} {vs : List (V × V)} {ds : List (D × D)} : Rep K ρ H x a → Rep K ρ H y b → RepP K ρ H vs ds → RepP K ρ H ((x, y) :: vs) ((a, b) :: ds)
theorem RepP.kv {K : Fg} {ρ : List Addr} {H : Hp} : ∀ {vs : List (V × V)} {ds : List (D × D)}, RepP K ρ H vs ds → keysOk ds = true → ∃ kvs : List (Key × V), vs = kvs.map (fun kv => (kV kv.1, kv.2)) ∧ RepKV K ρ H kvs ds
  | _, _, .nil, _ => ⟨[], rfl, .nil⟩
  | _, _, .cons rk rv t, h => by
    unfold keysOk at h
    rw [List.all_cons, Bool.and_eq_true] at h
    obtain ⟨kvs, e, l⟩ := RepP.kv t h.2
    obtain ⟨k, rfl, rfl⟩ := key_of_rep rk h.1
    exact ⟨(k, _) :: kvs, by rw [List.map_cons, ← e], .cons rv l⟩
theorem pairs_run {K : Fg} {mg : Mg} {σ : L2.St} {p : Addr} {Q : V → Hp → Prop} {ρ0 : List Addr} {H0 : Hp} : ∀ {ps : List (DE × DE)} {Q' : List (V × V) → Hp → Prop} {ρ : List Addr} {H : Hp} {env : Env} {S : Sto} {k : List (D × D) → Sto → R D}, ER K raw ρ H env σ → SR K mg ρ H S → Stp ρ0 H0 ρ H → p ∉ ρ → (∃ o, H p = some o) →
    Post K mg W ρ0 H0 σ (Rep K) ((pairsE ps env S).bind k) Q →
    (∀ vs ds ρ1 H1 S1, Stp ρ H ρ1 H1 → p ∉ ρ1 → H1 p = H p → SR K mg ρ1 H1 S1 → RepP K ρ1 H1 vs ds → Post K mg W ρ0 H0 σ (Rep K) (k ds S1) Q → Q' vs H1) → tPairs (trsOf K mg raw W ps) σ H Q'
  | [], Q', ρ, H, env, S, k, e, s, st, hp, ho, h, q => q [] [] ρ H S (Stp.refl _ _) hp rfl s .nil h
  | (fk, fv) :: r, Q', ρ, H, env, S, k, e, s, st, hp, ⟨o, ho⟩, h, q => by
    refine ⟨ρ, env, S, e, s, ?_⟩
    change Post K mg W ρ H σ (Rep K) (fk env S) _
    unfold pairsE at h
    cases q1 : fk env S with
    | err => rw [q1] at h; exact h.elim
    | exc c S1 => rw [q1] at h; exact fun C ρ' H' g st' sr => h C ρ' H' g (st.trans st') sr
    | ok a S1 =>
      rw [q1] at h
      intro x ρ1 H1 st1 s1 r1
      refine ⟨ρ1, env, S1, e.mono st1, s1, ?_⟩
      change Post K mg W ρ1 H1 σ (Rep K) (fv env S1) _
      simp only [R.bind_ok] at h
      cases q2 : fv env S1 with
      | err => rw [q2] at h; exact h.elim
      | exc c S2 => rw [q2] at h; exact fun C ρ' H' g st' sr => h C ρ' H' g ((st.trans st1).trans st') sr
      | ok b S2 =>
        rw [q2] at h
        intro y ρ2 H2 st2 s2 r2
        have hp1 : p ∉ ρ1 := fun hm => (st1.new p hm).elim hp fun z => by rw [ho] at z; cases z
        have ho1 : H1 p = some o := st1.old p o hp ho
        have hp2 : p ∉ ρ2 := fun hm => (st2.new p hm).elim hp1 fun z => by rw [ho1] at z; cases z
        have ho2 : H2 p = some o := st2.old p o hp1 ho1
        simp only [R.bind_ok] at h
        have h' : Post K mg W ρ0 H0 σ (Rep K) ((pairsE r env S2).bind fun ps S3 => k ((a, b) :: ps) S3) Q := by
          cases q3 : pairsE r env S2 <;> rw [q3] at h <;> exact h
        exact pairs_run ((e.mono st1).mono st2) s2 ((st.trans st1).trans st2) hp2 ⟨o, ho2⟩ h' fun vs ds ρ3 H3 S3 st3 hp3 e3 s3 l3 h3 =>
          q _ _ ρ3 H3 S3 ((st1.trans st2).trans st3) hp3 (by rw [e3, ho2, ho]) s3 (.cons ((r1.mono st2).mono st3) (r2.mono st3) l3) h3
theorem ex_dict {keys : List (Option Expr)} {values : List Expr} {ps : List (DE × DE)} (h : PPs X pos keys values (trsOf X.K X.mg raw W ps)) (hall : keys.all (·.isSome) = true) (hl : keys.length = values.length) (h0 : keys ≠ [])
    (h15 : keys.length ≤ 15) : EX X raw W (.Dict keys values pos) (dDict ps) :=
  PE.imp (pe_disp h hall hl h0 h15) fun σ H Q ⟨ρ, env, S, e, s, h⟩ p hp => by
    refine pairs_run (k := fun kvs S1 => if keysOk kvs = true ∧ kvs.length ≤ 15 then .ok (.ref S1.length) (S1 ++ [O.dict (mergeD [] kvs)]) else .err) (e.mono (stp_val hp)) (s.val hp) (stp_val hp) (s.fresh hp) ⟨_, upd_same⟩ h fun vs ds ρ1 H1 S1 st1 hp1 e1 s1 l1 h1 => ?_
    split at h1
    · rename_i hk
      rw [upd_same] at e1
      obtain ⟨kvs, rfl, rl⟩ := l1.kv hk.1
      have st := (Stp.trans (stp_val hp) st1 : Stp ρ H ρ1 H1)
      refine ⟨e1, kvs, rfl, by rw [rl.length]; exact hk.2, ?_⟩
      have s2 := s1.updOff (o' := .dK (mergeK [] kvs)) e1 trivial hp1
      exact h1 (.ref p) (ρ1 ++ [p]) _ ((st.updNew hp).adopt hp) (s2.adopt' hp1 ⟨_, upd_same, RepKV.more (repKV_upd e1 trivial (RepKV.merge rl .nil))⟩) (.ref (by rw [← s1.len]; exact at_new _ _))
    · exact h1.elim
def dDict0 : DE := fun _ S => .ok (.ref S.length) (S ++ [.dict []])
theorem ex_dict0 : EX X raw W (.Dict [] [] pos) dDict0 :=
  PE.imp pe_dnewK fun σ H Q ⟨ρ, env, S, e, s, h⟩ p hp => post_new h s hp ⟨[], upd_same, .nil⟩
end

/-! ### defs and their calls -/
abbrev Fn := List D → Sto → R D
def PostF (K : Fg) (mg : Mg) (ρ : List Addr) (H : Hp) (r : R D) (Q : VK) (E : XK) : Prop :=
  match r with
  | .ok d S' => ∀ v ρ' H', Stp ρ H ρ' H' → SR K mg ρ' H' S' → Rep K ρ' H' v d → Q v H'
  | .exc c S' => ∀ C ρ' H', mg c = some (.ref C) → Stp ρ H ρ' H' → SR K mg ρ' H' S' → E (.ref C) none H'
  | .err => False
def spM (K : Fg) (mg : Mg) (n : Nat) (m : Fn) : Sp := fun vs H Q E => vs.length = n ∧ ∃ ρ ds S, RepL K ρ H vs ds ∧ SR K mg ρ H S ∧ PostF K mg ρ H (m ds S) Q E
def runB (n : Nat) (b : DS) : Fn := fun ds S => match b (ds.map some ++ List.replicate (n - ds.length) none) S with
  | .nx _ S' => .ok .non S'
  | .rt d S' => .ok d S'
  | .exc c _ S' => .exc c S'
  | _ => .err
theorem RepL.get' {K : Fg} {ρ : List Addr} {H : Hp} : ∀ {vs : List V} {ds : List D} {i : Nat} {v : V}, RepL K ρ H vs ds → vs[i]? = some v → ∃ d, ds[i]? = some d ∧ Rep K ρ H v d
  | _, _, _, _, .nil, h => by simp at h
  | _, _, 0, _, .cons r t, h => by simp at h; subst h; exact ⟨_, rfl, r⟩
  | _, _, i + 1, _, .cons r t, h => by
    obtain ⟨v, q, r'⟩ := RepL.get' (i := i) t (by simpa using h)
    exact ⟨v, by simpa using q, r'⟩
section
variable {P : Program} {w : World} {K : Fg} {mg : Mg} {base : Heap}
theorem er_start {ρ : List Addr} {H : Hp} {N : List Str} {vs : List V} {ds : List D} (l : RepL K ρ H vs ds) : ER K [] ρ H (ds.map some ++ List.replicate (N.length - ds.length) none) (L2.start N vs) where
  len := by simp [L2.start, l.length]
  at_ := fun i d h => by
    by_cases hi : i < ds.length
    · rw [List.getElem?_append_left (by simpa using hi), List.getElem?_map] at h
      cases e : ds[i]? with
      | none => rw [e] at h; cases h
      | some d' =>
        rw [e] at h
        cases h
        obtain ⟨v, q, r⟩ := l.get e
        refine ⟨v, ?_, r⟩
        unfold L2.start
        rw [List.getElem?_append_left (by simp [l.length]; exact hi), List.getElem?_map, q]
        rfl
    · rw [List.getElem?_append_right (by simpa using hi), List.getElem?_replicate] at h
      split at h <;> cases h
  raw := fun _ h => nomatch h
theorem def_ok {x qual : Str} {st : Stmt} {f : Addr} {fd : FuncData} {N ps : List Str} {k : Nat} {body : DS} (F : Fun K x qual st f fd) (Sc : FnScope N ps (defScope st))
    (hb : ∀ (cdv : Value) (A : Around) (outer : List PySem.Env) (s : Shared) (H : Hp) (E : XK), Room k (A.deeper (envOfC qual (defScope st) s.heap.objs.size f cdv)) →
      BX (cxOf (L2.CX P w) P w K mg base N qual (defScope st) f cdv A outer s H E) [] (fun cls d _ H => E cls d H) (defBody st) body) : FnOk P w K mg base (L2.CX P w) (k + 1) f fd ps (spM K mg ps.length (runB N.length body)) := by
  refine F.okX Sc (fun vs H Q E h => h.1) fun cdv A outer s H vs Q E hr ⟨hl, ρ, ds, S, l, sr, h⟩ => ⟨_, hb cdv A outer s H E hr, ρ, _, S, er_start l, sr, ?_⟩
  unfold runB at h
  change PostS K mg [] _ ρ H (body (ds.map some ++ List.replicate (N.length - ds.length) none) S) _
  cases q : body (ds.map some ++ List.replicate (N.length - ds.length) none) S with
  | nx e S' => rw [q] at h; exact fun σ' ρ' H' st s' _ => h .non ρ' H' st s' .non
  | rt d S' => rw [q] at h; exact h
  | exc c e S' => rw [q] at h; exact fun C σ' ρ' H' g st s' _ => h C ρ' H' g st s'
  | bk e S' => rw [q] at h; exact h.elim
  | ct e S' => rw [q] at h; exact h.elim
  | err => rw [q] at h; exact h.elim
end
def dCall (n : Nat) (m : Fn) (fs : DA) : DE := fun env S => (fs env S).bind fun ds S1 => if ds.length = n then m ds S1 else .err
section
variable {X : Cx} {raw : List (Nat × V)} {W : WX} {pos p : Pos} {e : Expr} {es : List Expr} {fs : DA} {x : Str} {k n : Nat} {f : Addr} {fd : FuncData} {ps : List Str} {m : Fn}
theorem ex_call (F : FnOk X.prog X.w X.K X.mg X.base (L2.CX X.prog X.w) k f fd ps (spM X.K X.mg n m)) (hr : Room k X.A) (hm : X.mg x = some (.ref f)) (hk : PySem.W.keepIn X.K (.ref f) = true) (hb : Binds X.K fd ps []) (tk : Takes X W) (hg : Gl X x)
    (ha : AX X raw W (e :: es) fs) (hdb : (x == ("__debug__" : Str)) = false := by decide) (he : starEach (e :: es) X.env = (false, eval e X.env) :: starEach es X.env := by rfl) (hpl : (backTo pos (starEach es X.env)).any (·.1) = false := by rfl) :
    EX X raw W (.Call (.Name x p) (e :: es) [] pos) (dCall n m fs) :=
  PE.imp (pe_callS F hr hg hm hk hb (fun σ => passAt tk σ) ha hdb he hpl) fun σ H Q ⟨ρ, env, S, e, s, h⟩ => by
    refine ⟨ρ, env, S, e, s, ?_⟩
    unfold dCall at h
    cases hf : fs env S with
    | err => rw [hf] at h; exact h
    | exc c S1 => rw [hf] at h; exact h
    | ok ds S1 =>
      rw [hf] at h
      intro vs ρ1 H1 st sr l
      have h1 := Post.later h st
      simp only [R.bind_ok] at h1
      split at h1
      · rename_i hl
        refine ⟨by rw [l.length]; exact hl, ρ1, ds, S1, l, sr, ?_⟩
        cases q : m ds S1 with
        | ok d S2 => rw [q] at h1; exact h1
        | exc c S2 => rw [q] at h1; exact h1
        | err => rw [q] at h1; exact h1
      · exact h1.elim
end

section
variable {X : Cx} {raw : List (Nat × V)} {W : WX} {pos p : Pos} {x : Str} {k : Nat} {f : Addr} {fd : FuncData} {ps : List Str} {m : Fn}
theorem pe_callS0 {sp : Sp} {E : L2.St → XK} (F : FnOk X.prog X.w X.K X.mg X.base (L2.CX X.prog X.w) k f fd ps sp) (hr : Room k X.A) (hg : Gl X x) (hm : X.mg x = some (.ref f)) (hk : PySem.W.keepIn X.K (.ref f) = true) (hb : Binds X.K fd ps []) (hx : ∀ σ, PassesAt (L2.CX X.prog X.w) X σ (E σ))
    (hdb : (x == ("__debug__" : Str)) = false := by decide) : PE X (.Call (.Name x p) [] [] pos) (tCallS sp E tNil) := by
  refine ⟨fun pins s σ H Q I h => ?_⟩
  refine wpAny_Call_Name_kw (ld_glob I hg hm ?_ hdb)
  exact PySem.W.callWith_K0 I.kIn hk (run_fnS (us := []) F hr hb (hx σ) I .nil h)
theorem ex_call0 (F : FnOk X.prog X.w X.K X.mg X.base (L2.CX X.prog X.w) k f fd ps (spM X.K X.mg 0 m)) (hr : Room k X.A) (hm : X.mg x = some (.ref f)) (hk : PySem.W.keepIn X.K (.ref f) = true) (hb : Binds X.K fd ps []) (tk : Takes X W) (hg : Gl X x)
    (hdb : (x == ("__debug__" : Str)) = false := by decide) : EX X raw W (.Call (.Name x p) [] [] pos) (dCall 0 m dNilA) :=
  PE.imp (pe_callS0 F hr hg hm hk hb (fun σ => passAt tk σ) hdb) fun σ H Q ⟨ρ, env, S, e, s, h⟩ => by
    refine ⟨rfl, ρ, [], S, .nil, s, ?_⟩
    unfold dCall dNilA at h
    simp only [R.bind_ok, List.length_nil, if_pos] at h
    cases q : m [] S with
    | ok d S2 => rw [q] at h; exact h
    | exc c S2 => rw [q] at h; exact h
    | err => rw [q] at h; exact h
end

/-! ### raise, try -/
abbrev veB : List Value := [.type "ValueError", .type "Exception", .type "BaseException", .type "object"]
structure ExcF (K : Fg) (C : Addr) : Prop where
  q : PySem.W.excIn K C veB "ValueError.__new__" = true
  kp : PySem.W.keepIn K (.ref C) = true
  sb : PySem.W.subIn K (.ref C) (.type "BaseException") = some true
  ty : PySem.W.typeIn K (.ref C) = some (.type "type")
theorem sx_raise {X : Cx} {raw : List (Nat × V)} {W : WX} {x m : Str} {j : Nat} {p p2 pos pos' : Pos} {C : Addr} (hc : X.calm = true) (tk : Takes X W) (F : ExcF X.K C) (gC : X.mg x = some (.ref C)) (hg : Gl X x)
    (hdb : (x == ("__debug__" : Str)) = false := by decide) : SX X raw W (.Raise (some (.Call (.Name x p) [.Constant (.str m) j p2] [] pos)) none pos') (dRaise x) :=
  PS.imp (ps_raise hc tk (pmk_own PySem.F.excBase_ValueError F.q gC F.kp (raises_own F.sb F.ty) hg hdb)) fun σ H D ⟨ρ, env, S, e, s, h⟩ => h C σ ρ H gC (Stp.refl _ _) s e

/-! ### the law -/
def spLaw (K : Fg) : Sp := fun vs H Q _ => ∃ (a : Addr) (ns : List Int), vs = [.ref a] ∧ SqL K H a (ns.map V.int) ∧ ns.length ≤ 63 ∧ Only H ∧ ∀ H', Q (.bl true) H'
theorem repL_ints' {K : Fg} {ρ : List Addr} {H : Hp} (ns : List Int) : RepL K ρ H (ns.map V.int) (ns.map D.int) := repL_ints ns
theorem law_ok {P : Program} {w : World} {K : Fg} {mg : Mg} {base : Heap} {k : Nat} {f : Addr} {fd : FuncData} {ps : List Str} {m : Fn} (F : FnOk P w K mg base (L2.CX P w) k f fd ps (spM K mg 1 m))
    (h : ∀ ns : List Int, ns.length ≤ 63 → ∃ S', m [.scr (ns.map D.int)] [] = .ok (.bl true) S') : FnOk P w K mg base (L2.CX P w) k f fd ps (spLaw K) :=
  F.imp fun vs H Q E ⟨a, ns, ev, hS, hl, hO, q⟩ => by
    subst ev
    obtain ⟨S', hm⟩ := h ns hl
    refine ⟨rfl, [], [.scr (ns.map D.int)], [], .cons (.scr ?_ (repL_ints ns)) .nil, ⟨rfl, List.nodup_nil, fun n o a h => by simp at h⟩, ?_⟩
    · rcases hS with (hS | ⟨o, hS⟩) | hS
      · rcases hO a with z | ⟨o, xs, z⟩
        · rw [hS] at z; cases z
        · rw [hS] at z; cases z
      · exact .inl ⟨o, hS⟩
      · exact .inr hS
    · rw [hm]
      intro v ρ' H' _ _ r
      cases r
      exact q H'
end RL

namespace RL
open PySem PySem.Spec PyProof.Rows L2

/-! ### short words for a program -/
/-- a def of the top, as the top leaves it -/
def FunAt (K : Fg) (mg : Mg) (x : Str) (st : Stmt) (ps : List Str) : Prop := ∃ f fd, Fun K x x st f fd ∧ mg x = some (.ref f) ∧ Binds K fd ps []
/-- a def that may be called: what it is worth -/
def Cal (P : Program) (w : World) (K : Fg) (mg : Mg) (base : Heap) (x : Str) (k n : Nat) (m : Fn) : Prop :=
  ∃ f fd ps, FnOk P w K mg base (L2.CX P w) k f fd ps (spM K mg n m) ∧ mg x = some (.ref f) ∧ PySem.W.keepIn K (.ref f) = true ∧ Binds K fd ps []
section
variable {P : Program} {w : World} {K : Fg} {mg : Mg} {base : Heap}
theorem Cal.mono {x : Str} {j k n : Nat} {m : Fn} (h : Cal P w K mg base x j n m) (hk : j ≤ k) : Cal P w K mg base x k n m :=
  let ⟨f, fd, ps, F, g, q, b⟩ := h
  ⟨f, fd, ps, F.mono hk, g, q, b⟩
theorem cal_of {x : Str} {st : Stmt} {N ps : List Str} {k : Nat} {body : DS} (F : FunAt K mg x st ps) (Sc : FnScope N ps (defScope st))
    (hb : ∀ (f : Addr) (cdv : Value) (A : Around) (outer : List PySem.Env) (s : Shared) (H : Hp) (E : XK), Room k (A.deeper (envOfC x (defScope st) s.heap.objs.size f cdv)) →
      BX (cxOf (L2.CX P w) P w K mg base N x (defScope st) f cdv A outer s H E) [] (fun cls d _ H => E cls d H) (defBody st) body) : Cal P w K mg base x (k + 1) ps.length (runB N.length body) := by
  obtain ⟨f, fd, F, g, b⟩ := F
  exact ⟨f, fd, ps, def_ok F Sc (hb f), g, F.kp, b⟩
end
section
variable {X : Cx} {raw : List (Nat × V)} {W : WX} {pos p : Pos} {e : Expr} {es : List Expr} {fs : DA} {x : Str} {j k n : Nat} {m : Fn}
theorem cx_call (F : Cal X.prog X.w X.K X.mg X.base x j n m) (hr : Room k X.A) (hj : j ≤ k) (tk : Takes X W) (hg : Gl X x) (ha : AX X raw W (e :: es) fs)
    (hdb : (x == ("__debug__" : Str)) = false := by decide) (he : starEach (e :: es) X.env = (false, eval e X.env) :: starEach es X.env := by rfl) (hpl : (backTo pos (starEach es X.env)).any (·.1) = false := by rfl) :
    EX X raw W (.Call (.Name x p) (e :: es) [] pos) (dCall n m fs) := by
  obtain ⟨f, fd, ps, F, g, q, b⟩ := F
  exact ex_call F (hr.mono hj) g q b tk hg ha hdb he hpl
theorem cx_call0 (F : Cal X.prog X.w X.K X.mg X.base x j 0 m) (hr : Room k X.A) (hj : j ≤ k) (tk : Takes X W) (hg : Gl X x) (hdb : (x == ("__debug__" : Str)) = false := by decide) : EX X raw W (.Call (.Name x p) [] [] pos) (dCall 0 m dNilA) := by
  obtain ⟨f, fd, ps, F, g, q, b⟩ := F
  exact ex_call0 F (hr.mono hj) g q b tk hg hdb
theorem u65 (hr : Room k X.A) : X.A.units + 65 < cLine := by have := hr.un; omega
theorem u64 (hr : Room k X.A) : X.A.units + 64 < cLine := by have := hr.un; omega
theorem u1 (hr : Room k X.A) : X.A.units + 1 < cLine := by have := hr.un; omega
end

/-! ### for over a list, a tuple or a text -/
def itAny (x : D) (S : Sto) : R ItD := match x with
  | .tup ds => .ok ⟨ds, []⟩ S
  | .str z => .ok ⟨strs1 z, []⟩ S
  | x => itOf x S
def dItA (f : DE) : DI := fun env S => (f env S).bind itAny
section
variable {X : Cx} {raw : List (Nat × V)} {W : WX} {pos p : Pos} {tg e a b : Expr} {f : DE} {fs : DA}
theorem it_any (he : EX X raw W e f) : IX X raw W tg e (dItA f) := ⟨fun pins s σ H R I ⟨ρ, env, S, er, sr, h⟩ => by
  cases q : f env S with
  | err => unfold dItA at h; rw [q] at h; exact h.elim
  | exc c S1 => exact (ix_list he).run pins s σ H R I ⟨ρ, env, S, er, sr, by unfold dIt; unfold dItA at h; rw [q] at h ⊢; exact h⟩
  | ok d S1 =>
    unfold dItA at h
    rw [q] at h
    cases d with
    | tup ds => exact (ix_tuple he).run pins s σ H R I ⟨ρ, env, S, er, sr, by unfold dItT; rw [q]; exact h⟩
    | str z => exact (ix_text he).run pins s σ H R I ⟨ρ, env, S, er, sr, by unfold dItS; rw [q]; exact h⟩
    | scr ds => exact (ix_list he).run pins s σ H R I ⟨ρ, env, S, er, sr, by unfold dIt; rw [q]; exact h⟩
    | ref n => exact (ix_list he).run pins s σ H R I ⟨ρ, env, S, er, sr, by unfold dIt; rw [q]; exact h⟩
    | non => exact h.elim
    | bl _ => exact h.elim
    | int _ => exact h.elim⟩
/-- range(a, b, c) -/
def rangeC (lo c : Int) (n : Nat) : List D := (List.range n).map fun i => .int (lo + (i : Nat) * c)
def dRange3 (fs : DA) : DI := fun env S => (fs env S).bind fun xs S1 => match xs with
  | [.int i, .int j, .int c] => if c ≠ 0 ∧ c.natAbs < 1073741824 ∧ Builtin.Range.small i j c = true ∧ 0 ≤ Builtin.Range.rangeSize i j c then .ok ⟨rangeC i c (Builtin.Range.rangeSize i j c).toNat, []⟩ S1 else .err
  | _ => .err
theorem wk_rangeC {K : Fg} {mg : Mg} {ρ : List Addr} {H : Hp} {lo c : Int} {n : Nat} : Wk K mg (Itc lo c n) ρ H ⟨rangeC lo c n, []⟩ where
  go := fun i H' ρ' S hi st s g => (by simpa [rangeC] using hi : i < n)
  stop := fun i H' ρ' S hi st s g => (by simpa [rangeC] using hi : n ≤ i)
  yld := fun i H' ρ' S x H2 hi st s g ⟨e, y⟩ => by
    subst e; subst y
    have hi' : i < n := by simpa [rangeC] using hi
    refine ⟨.int (lo + i * c), ?_, .int _, Stp.refl _ _, s⟩
    simp [rangeC, hi']
theorem it_range3 {c : Expr} (hg : Gl X "range") (hm : X.mg "range" = none) (ha : AX X raw W [a, b, c] fs) (hs : starEach [a, b, c] X.env = (false, eval a X.env) :: starEach [b, c] X.env := by rfl) (hpl : (backTo pos (starEach [b, c] X.env)).any (·.1) = false := by rfl) :
    IX X raw W tg (.Call (.Name "range" p) [a, b, c] [] pos) (dRange3 fs) :=
  PI.imp (pi_range3 hg hm ha hs hpl) fun σ H Q ⟨ρ, env, S, e, s, h⟩ => tG_bindI e s h fun d S1 v ρ1 H1 st e1 s1 r1 h1 => by
    split at h1
    · rename_i i j c
      cases r1 with
      | cons r t =>
        cases t with
        | cons r2 t =>
          cases t with
          | cons r3 t =>
            cases t; cases r; cases r2; cases r3
            split at h1
            · rename_i hj
              exact ⟨i, j, c, _, rfl, ⟨hj.1, hj.2.1, hj.2.2.1, by rw [Int.toNat_of_nonneg hj.2.2.2]⟩, h1 _ ρ1 H1 (Stp.refl _ _) s1 wk_rangeC⟩
            · exact h1.elim
    · exact h1.elim
end

/-! ### dicts of the module with text keys and texts -/
inductive KTab : List DictEntry → List (Str × D) → Prop where
  | nil : KTab [] []
  | str {e : DictEntry} {x y : Str} {t u : Tok} {r : List DictEntry} {tb : List (Str × D)} : e.key = .str x t → e.val = .str y u → KTab r tb → KTab (e :: r) ((x, .str y) :: tb)
theorem KTab.find {z : Str} : ∀ {es : List DictEntry} {tb : List (Str × D)}, KTab es tb → (es.find? (·.key.isStr z) = none ∧ tb.lookup z = none) ∨ ∃ e v d, es.find? (·.key.isStr z) = some e ∧ tb.lookup z = some d ∧ RelV v e.val ∧ ∀ K ρ H, Rep K ρ H v d
  | _, _, .nil => .inl ⟨rfl, rfl⟩
  | _, _, .str (e := e) (x := x) (y := y) (u := u) hk hv t => by
    by_cases h : z = x
    · subst h
      refine .inr ⟨e, .str y, .str y, ?_, by simp [List.lookup], ⟨u, hv⟩, fun _ _ _ => .str y⟩
      exact List.find?_cons_of_pos (p := fun (x : DictEntry) => x.key.isStr z) (by rw [hk, PySem.W.isStr_of]; simp [Value.isStrOf])
    · have hb : ¬ e.key.isStr z = true := by
        rw [hk, PySem.W.isStr_of]
        simp [Value.isStrOf]
        exact fun q => h (q.symm)
      have hl : (z == x) = false := by simpa using h
      rw [List.find?_cons_of_neg (p := fun (x : DictEntry) => x.key.isStr z) hb]
      rcases t.find (z := z) with ⟨h1, h2⟩ | ⟨e', v, d, h1, h2, h3, h4⟩
      · exact .inl ⟨h1, by simp [List.lookup, hl, h2]⟩
      · exact .inr ⟨e', v, d, h1, by simp [List.lookup, hl, h2], h3, h4⟩
theorem KTab.noref : ∀ {es : List DictEntry} {tb : List (Str × D)}, KTab es tb → es.any (·.refKey) = false
  | _, _, .nil => rfl
  | _, _, .str hk _ t => by
    rw [List.any_cons, t.noref, DictEntry.refKey, hk] <;> rfl
/-- a module's dict -/
def KD (K : Fg) (w : World) (mg : Mg) (x : Str) (tb : List (Str × D)) : Prop := ∃ d es n, mg x = some (.ref d) ∧ KDict K w d es n ∧ KTab es.toList tb
def gInK (tb : List (Str × D)) : G1 := fun x S => match x with
  | .str z => .ok (.bl (tb.lookup z).isSome) S
  | _ => .err
def gNotInK (tb : List (Str × D)) : G1 := fun x S => match x with
  | .str z => .ok (.bl (!(tb.lookup z).isSome)) S
  | _ => .err
def gIxK (tb : List (Str × D)) : G1 := fun x S => match x with
  | .str z => match tb.lookup z with
    | some d => .ok d S
    | none => .err
  | _ => .err
theorem nsIn_tab {K : Fg} {w : World} {d : Addr} {es : Array DictEntry} {n : Nat} {tb : List (Str × D)} (D : KDict K w d es n) (t : KTab es.toList tb) (z : Str) :
    ∃ r, PySem.W.nsIn K d z = some r ∧ ((r = none ∧ tb.lookup z = none) ∨ ∃ u v dd, r = some u ∧ tb.lookup z = some dd ∧ RelV v u ∧ ∀ K ρ H, Rep K ρ H v dd) := by
  unfold PySem.W.nsIn
  rw [D.at_]
  dsimp only
  rcases t.find (z := z) with ⟨h1, h2⟩ | ⟨e', v, d, h1, h2, h3, h4⟩
  · rw [h1]
    dsimp only
    rw [t.noref, if_neg Bool.false_ne_true]
    exact ⟨none, rfl, .inl ⟨rfl, h2⟩⟩
  · rw [h1]
    exact ⟨some e'.val, rfl, .inr ⟨_, v, d, rfl, h2, h3, h4⟩⟩
section
variable {X : Cx} {raw : List (Nat × V)} {W : WX} {pos p : Pos} {a : Expr} {f : DE} {x : Str} {tb : List (Str × D)}
theorem ex_inK (F : KD X.K X.w X.mg x tb) (hg : Gl X x) (ha : EX X raw W a f) (hm : behindInMarks .In (.Name x p) = false := by with_unfolding_all rfl) (hd : (x == ("__debug__" : Str)) = false := by decide) : EX X raw W (.Compare a [.In] [.Name x p] pos) (dUn (gInK tb) f) := by
  obtain ⟨d, es, n, g, D, t⟩ := F
  refine PE.imp (pe_cmpR (op_in_kd D) ha (pe_glob hg g (v := .ref d) rfl hd) hm) fun σ H Q ⟨ρ, env, S, e, s, h⟩ => tG_bind e s h fun k S1 v ρ1 H1 st e1 s1 r1 h1 => ?_
  unfold gInK at h1
  split at h1
  · rename_i z
    cases r1
    obtain ⟨r, e2, h2⟩ := nsIn_tab D t z
    refine ⟨z, r, rfl, rfl, e2, ?_⟩
    rcases h2 with ⟨rfl, h2⟩ | ⟨u, v, dd, rfl, h2, _, _⟩
    · rw [h2] at h1; exact post_val h1 s1 (.bl _)
    · rw [h2] at h1; exact post_val h1 s1 (.bl _)
  · exact h1.elim
theorem ex_notInK (F : KD X.K X.w X.mg x tb) (hg : Gl X x) (ha : EX X raw W a f) (hm : behindInMarks .NotIn (.Name x p) = false := by with_unfolding_all rfl) (hd : (x == ("__debug__" : Str)) = false := by decide) : EX X raw W (.Compare a [.NotIn] [.Name x p] pos) (dUn (gNotInK tb) f) := by
  obtain ⟨d, es, n, g, D, t⟩ := F
  refine PE.imp (pe_cmpR (op_notIn_kd D) ha (pe_glob hg g (v := .ref d) rfl hd) hm) fun σ H Q ⟨ρ, env, S, e, s, h⟩ => tG_bind e s h fun k S1 v ρ1 H1 st e1 s1 r1 h1 => ?_
  unfold gNotInK at h1
  split at h1
  · rename_i z
    cases r1
    obtain ⟨r, e2, h2⟩ := nsIn_tab D t z
    refine ⟨z, r, rfl, rfl, e2, ?_⟩
    rcases h2 with ⟨rfl, h2⟩ | ⟨u, v, dd, rfl, h2, _, _⟩
    · rw [h2] at h1; exact post_val h1 s1 (.bl _)
    · rw [h2] at h1; exact post_val h1 s1 (.bl _)
  · exact h1.elim
theorem ix_kd {d : Addr} {es : Array DictEntry} {n : Nat} (D : KDict X.K X.w d es n) : IxR X (fun x y H Q => ∃ (z : Str) (u0 : Value) (v0 : V), x = .ref d ∧ y = .str z ∧ PySem.W.nsIn X.K d z = some (some u0) ∧ RelV v0 u0 ∧ Q v0 H) := by
  intro value slice pins s σ H x y v u Q I rx ry h hs
  obtain ⟨z, u0, v0, rfl, rfl, e, r, q⟩ := h
  obtain rfl : v = Value.ref d := rx
  exact tail_any (kd_type D I) PySem.F.slot_dict_getitem.lookup (op_item_kd D pins s σ H (.ref d) (.str z) _ u Q I rfl ry ⟨z, u0, v0, rfl, rfl, e, r, q⟩) hs
theorem ex_ixK (F : KD X.K X.w X.mg x tb) (hg : Gl X x) (ha : EX X raw W a f) (hs : PlainIx a) (hd : (x == ("__debug__" : Str)) = false := by decide) : EX X raw W (.Subscript (.Name x p) a pos) (dUn (gIxK tb) f) := by
  obtain ⟨d, es, n, g, D, t⟩ := F
  refine PE.imp (pe_ix (ix_kd D) (pe_glob hg g (v := .ref d) rfl hd) ha hs) fun σ H Q ⟨ρ, env, S, e, s, h⟩ => tG_bind e s h fun k S1 v ρ1 H1 st e1 s1 r1 h1 => ?_
  unfold gIxK at h1
  split at h1
  · rename_i z
    cases r1
    obtain ⟨r, e2, h2⟩ := nsIn_tab D t z
    split at h1
    · rename_i dd ed
      rcases h2 with ⟨rfl, h2⟩ | ⟨u, v, d', rfl, h2, h3, h4⟩
      · rw [h2] at ed; cases ed
      · rw [h2] at ed; cases ed
        exact ⟨z, u, v, rfl, rfl, e2, h3, post_val h1 s1 (h4 _ _ _)⟩
    · exact h1.elim
  · exact h1.elim
end

/-! ### constants of the module -/
inductive KVals : List Value → List V → List D → Prop where
  | nil : KVals [] [] []
  | str {x : Str} {t : Tok} {us : List Value} {vs : List V} {ds : List D} : KVals us vs ds → KVals (.str x t :: us) (.str x :: vs) (.str x :: ds)
  | int {i : Int} {t : Tok} {us : List Value} {vs : List V} {ds : List D} : KVals us vs ds → KVals (.int i t :: us) (.int i :: vs) (.int i :: ds)
theorem KVals.vals : ∀ {us : List Value} {vs : List V} {ds : List D}, KVals us vs ds → Vals vs us
  | _, _, _, .nil => .nil
  | _, _, _, .str t => .cons ⟨_, rfl⟩ t.vals
  | _, _, _, .int t => .cons ⟨_, rfl⟩ t.vals
theorem KVals.rep {K : Fg} {ρ : List Addr} {H : Hp} : ∀ {us : List Value} {vs : List V} {ds : List D}, KVals us vs ds → RepL K ρ H vs ds
  | _, _, _, .nil => .nil
  | _, _, _, .str t => .cons (.str _) t.rep
  | _, _, _, .int t => .cons (.int _) t.rep
theorem repK_int {K : Fg} {i : Int} {t : Tok} : RepK K (.int i t) (.int i) := ⟨.int i, ⟨t, rfl⟩, fun _ _ => .int i⟩
theorem repK_str {K : Fg} {i : Str} {t : Tok} : RepK K (.str i t) (.str i) := ⟨.str i, ⟨t, rfl⟩, fun _ _ => .str i⟩
theorem repK_tup {K : Fg} {a : Addr} {dd : Option Addr} {us : List Value} {n : Nat} {sl : Array (Option Value)} {vs : List V} {ds : List D} (h : K.lookup a = some ⟨.type "tuple", dd, .seq us.toArray n, sl⟩) (q : KVals us vs ds) (hz : us.length ≤ 1000 := by simp) : RepK K (.ref a) (.tup ds) :=
  ⟨.ref a, rfl, fun ρ H => .tup (.inr ⟨_, us.toArray, n, h, rfl, rfl, by rw [List.size_toArray, sizeLine_eq]; omega, by simpa using q.vals⟩) q.rep⟩
end RL

namespace RL
open PySem PySem.Spec PyProof.Rows L2

/-! ### a def that nothing is known of (the ground of a recursion) -/
theorem bx_err {X : Cx} {raw : List (Nat × V)} {W : WX} {b : List Stmt} : BX X raw W b (fun _ _ => .err) := ⟨fun _ _ _ _ _ _ ⟨_, _, _, _, _, h⟩ => h.elim⟩
def errF : Fn := fun _ _ => .err
theorem runB_errF {n : Nat} : runB n (fun _ _ => .err) = errF := rfl
section
variable {P : Program} {w : World} {K : Fg} {mg : Mg} {base : Heap}
theorem cal_err {x : Str} {st : Stmt} {N ps : List Str} {k : Nat} (F : FunAt K mg x st ps) (Sc : FnScope N ps (defScope st)) : Cal P w K mg base x (k + 1) ps.length errF :=
  cal_of (N := N) (body := fun _ _ => .err) F Sc fun _ _ _ _ _ _ _ _ => bx_err
end

/-! ### try .. except C as e -/
def endAs (i : Nat) : Fl → Fl
  | .nx e S => .nx (e.set i none) S
  | .rt d S => .rt d S
  | .bk e S => .bk (e.set i none) S
  | .ct e S => .ct (e.set i none) S
  | _ => .err
def dTryAs (sb : List (Str × Bool)) (i : Nat) (b : DS) (s : Str → DS) : DS := fun env S => match b env S with
  | .exc c e S1 => match sb.lookup c with
    | some true => if i < e.length then endAs i (s c (e.set i none) S1) else .err
    | some false => .exc c e S1
    | none => .err
  | r => r
def endOn : Fl → Fl
  | .exc _ _ _ => .err
  | r => r
def dTryOn (sb : List (Str × Bool)) (b : DS) (s : Str → DS) : DS := fun env S => match b env S with
  | .exc c e S1 => match sb.lookup c with
    | some true => endOn (s c e S1)
    | some false => .exc c e S1
    | none => .err
  | r => r
/-- what the clauses' tables say -/
def ExmT (K : Fg) (mg : Mg) (sb : List (Str × Bool)) (C : Value) : Prop := ∀ (c : Str) (b : Bool) (D : Addr), sb.lookup c = some b → mg c = some (.ref D) → PySem.W.exmOne K (.ref D) C = some b
def KitT (K : Fg) (mg : Mg) (sb : List (Str × Bool)) (C : Value) : Prop := ∀ (c : Str) (b : Bool) (D : Addr), sb.lookup c = some b → mg c = some (.ref D) → PySem.W.kitOne K (.ref D) C = some b
theorem ExmT.nil {K : Fg} {mg : Mg} {C : Value} : ExmT K mg [] C := fun _ _ _ h => nomatch h
theorem ExmT.cons {K : Fg} {mg : Mg} {C : Value} {c : Str} {b : Bool} {sb : List (Str × Bool)} {D : Addr} (g : mg c = some (.ref D)) (h : PySem.W.exmOne K (.ref D) C = some b) (r : ExmT K mg sb C) : ExmT K mg ((c, b) :: sb) C := fun c' b' D' q m => by
  rw [List.lookup_cons] at q
  cases e : c' == c with
  | true =>
    rw [e] at q; cases q
    have e' := beq_iff_eq.mp e
    subst e'
    rw [g] at m; cases m
    exact h
  | false => rw [e] at q; exact r c' b' D' q m
theorem KitT.nil {K : Fg} {mg : Mg} {C : Value} : KitT K mg [] C := fun _ _ _ h => nomatch h
theorem KitT.cons {K : Fg} {mg : Mg} {C : Value} {c : Str} {b : Bool} {sb : List (Str × Bool)} {D : Addr} (g : mg c = some (.ref D)) (h : PySem.W.kitOne K (.ref D) C = some b) (r : KitT K mg sb C) : KitT K mg ((c, b) :: sb) C := fun c' b' D' q m => by
  rw [List.lookup_cons] at q
  cases e : c' == c with
  | true =>
    rw [e] at q; cases q
    have e' := beq_iff_eq.mp e
    subst e'
    rw [g] at m; cases m
    exact h
  | false => rw [e] at q; exact r c' b' D' q m
section
variable {X : Cx} {raw : List (Nat × V)} {W : WX} {x n : Str} {C : Value} {i : Nat} {body suite : List Stmt} {b₀ : Stmt} {np pos pos' : Pos} {b : DS} {s : Str → DS} {sb : List (Str × Bool)}
theorem ER.drop {K : Fg} {ρ : List Addr} {H : Hp} {env : Env} {σ : L2.St} {i : Nat} {o : Option V} (e : ER K raw ρ H env σ) (hr : ∀ p ∈ raw, p.1 ≠ i) : ER K raw ρ H (env.set i none) (σ.set i o) :=
  ⟨by simp [e.len], fun j d' h => by
    by_cases hj : j = i
    · subst hj
      obtain ⟨q, e'⟩ := List.getElem?_eq_some_iff.mp h
      simp at q e'
    · rw [List.getElem?_set_ne (Ne.symm hj)] at h
      obtain ⟨v', q, r'⟩ := e.at_ j d' h
      exact ⟨v', by rw [List.getElem?_set_ne (Ne.symm hj)]; exact q, r'⟩,
  fun p hp => by rw [List.getElem?_set_ne (Ne.symm (hr p hp))]; exact e.raw p hp⟩
theorem ER.more {K : Fg} {ρ : List Addr} {H : Hp} {env : Env} {σ : L2.St} {i : Nat} {v : V} (e : ER K raw ρ H env σ) (hr : ∀ p ∈ raw, p.1 ≠ i) (hi : i < env.length) : ER K ((i, v) :: raw) ρ H (env.set i none) (σ.set i (some v)) :=
  ⟨(e.drop hr).len, (e.drop hr).at_, fun p hp => by
    rcases List.mem_cons.mp hp with rfl | hp
    · rw [List.getElem?_set_self (by rw [e.len]; exact hi)]
    · exact (e.drop hr).raw p hp⟩
theorem ER.less {K : Fg} {ρ : List Addr} {H : Hp} {env : Env} {σ : L2.St} {p : Nat × V} (e : ER K (p :: raw) ρ H env σ) : ER K raw ρ H env σ := ⟨e.len, e.at_, fun q hq => e.raw q (List.mem_cons_of_mem _ hq)⟩
theorem sx_tryAs (hs : X.stack = X.env :: X.outer) (hf : X.env.frame = some X.env.locals) (hN : X.N.Nodup) (hi : X.N[i]? = some n) (hln : X.env.kindOf n = some .local) (hc : Names X x C) (tk : Takes X W)
    (hx : ExmT X.K X.mg sb C) (hri : ∀ p ∈ raw, p.1 ≠ i)
    (hb : ∀ (W' : WX) (pn : List (Addr × Obj)) (xe : Value → Shared → Prop), Takes (X.tr pn xe) W' → PassesOwn (model X.prog X.w) X.A X.env xe → BX (X.tr pn xe) raw W' body b)
    (hsu : ∀ (c : Str) (D a : Addr) (oe : Obj) (pn : List (Addr × Obj)), sb.lookup c = some true → X.mg c = some (.ref D) → Zc (.ref D) none oe → (∃ vs, oe.data = .fields vs) → BX (X.suite a ((a, oe) :: pn)) ((i, .ref a) :: raw) (fun _ _ _ _ => False) (b₀ :: suite) (s c)) :
    SX X raw W (.Try body [.ExceptHandler (some (.Name x np)) (some n) (b₀ :: suite) pos'] [] [] pos) (dTryAs sb i b s) := by
  refine PS.imp (ps_try_as (ts := fun a cls d Dn σ H => ∃ c D, cls = .ref D ∧ d = none ∧ X.mg c = some (.ref D) ∧ sb.lookup c = some true ∧ tS X.K X.mg ((i, .ref a) :: raw) (fun _ _ _ _ => False) (s c) Dn σ H) (tb := fun W' => tS X.K X.mg raw W' b) hs hf hN hi hln hc tk hb
    (fun a oe cls d pn hz hd => ⟨fun pins t σ H Dn I ⟨c, D, e1, e2, g, q, h⟩ => by subst e1; subst e2; exact (hsu c D a oe pn q g hz hd).run pins t σ H Dn I h⟩)) fun σ H Dn ⟨ρ, env, S, e, sr, h⟩ => ?_
  refine ⟨ρ, env, S, e, sr, ?_⟩
  unfold dTryAs at h
  cases q : b env S with
  | nx e1 S1 => rw [q] at h; exact h
  | rt d S1 => rw [q] at h; exact h
  | bk e1 S1 => rw [q] at h; exact h
  | ct e1 S1 => rw [q] at h; exact h
  | err => rw [q] at h; exact h
  | exc c e1 S1 =>
    rw [q] at h
    dsimp only at h
    intro D σ' ρ' H' g st sr' er
    cases qs : sb.lookup c with
    | none => rw [qs] at h; exact h.elim
    | some bb =>
      rw [qs] at h
      refine ⟨bb, hx c bb D qs g, fun hbb a ha => ?_, fun hbb => ?_⟩
      · subst hbb
        dsimp only at h
        split at h
        · rename_i hl
          refine ⟨c, D, rfl, rfl, g, qs, ρ', _, S1, er.more hri hl, sr', ?_⟩
          cases qq : s c (e1.set i none) S1 with
          | nx e2 S2 => rw [qq] at h; exact fun σ2 ρ2 H2 st2 s2 er2 => h _ ρ2 H2 (st.trans st2) s2 (er2.less.drop hri)
          | rt d S2 => rw [qq] at h; exact fun v ρ2 H2 st2 s2 r2 => h v ρ2 H2 (st.trans st2) s2 r2
          | bk e2 S2 => rw [qq] at h; exact fun σ2 ρ2 H2 st2 s2 er2 => h _ ρ2 H2 (st.trans st2) s2 (er2.less.drop hri)
          | ct e2 S2 => rw [qq] at h; exact fun σ2 ρ2 H2 st2 s2 er2 => h _ ρ2 H2 (st.trans st2) s2 (er2.less.drop hri)
          | exc c2 e2 S2 => rw [qq] at h; exact h.elim
          | err => rw [qq] at h; exact h.elim
        · exact h.elim
      · subst hbb
        exact h D σ' ρ' H' g st sr' er
theorem sx_tryOn (hs : X.stack = X.env :: X.outer) (hf : X.env.frame = some X.env.locals) (hc : Names X x C) (tk : Takes X W)
    (hx : ExmT X.K X.mg sb C)
    (hb : ∀ (W' : WX) (pn : List (Addr × Obj)) (xe : Value → Shared → Prop), Takes (X.tr pn xe) W' → PassesOwn (model X.prog X.w) X.A X.env xe → BX (X.tr pn xe) raw W' body b)
    (hsu : ∀ (c : Str) (D a : Addr) (oe : Obj) (pn : List (Addr × Obj)), sb.lookup c = some true → X.mg c = some (.ref D) → Zc (.ref D) none oe → (∃ vs, oe.data = .fields vs) → BX (X.suite a ((a, oe) :: pn)) raw (fun _ _ _ _ => False) (b₀ :: suite) (s c)) :
    SX X raw W (.Try body [.ExceptHandler (some (.Name x np)) none (b₀ :: suite) pos'] [] [] pos) (dTryOn sb b s) := by
  refine PS.imp (ps_try_only (ts := fun a cls d Dn σ H => ∃ c D, cls = .ref D ∧ d = none ∧ X.mg c = some (.ref D) ∧ sb.lookup c = some true ∧ tS X.K X.mg raw (fun _ _ _ _ => False) (s c) Dn σ H) (tb := fun W' => tS X.K X.mg raw W' b) hs hf hc tk hb
    (fun a oe cls d pn hz hd => ⟨fun pins t σ H Dn I ⟨c, D, e1, e2, g, q, h⟩ => by subst e1; subst e2; exact (hsu c D a oe pn q g hz hd).run pins t σ H Dn I h⟩)) fun σ H Dn ⟨ρ, env, S, e, sr, h⟩ => ?_
  refine ⟨ρ, env, S, e, sr, ?_⟩
  unfold dTryOn at h
  cases q : b env S with
  | nx e1 S1 => rw [q] at h; exact h
  | rt d S1 => rw [q] at h; exact h
  | bk e1 S1 => rw [q] at h; exact h
  | ct e1 S1 => rw [q] at h; exact h
  | err => rw [q] at h; exact h
  | exc c e1 S1 =>
    rw [q] at h
    dsimp only at h
    intro D σ' ρ' H' g st sr' er
    cases qs : sb.lookup c with
    | none => rw [qs] at h; exact h.elim
    | some bb =>
      rw [qs] at h
      refine ⟨bb, hx c bb D qs g, fun hbb a ha => ?_, fun hbb => ?_⟩
      · subst hbb
        dsimp only at h
        refine ⟨c, D, rfl, rfl, g, qs, ρ', _, S1, er, sr', ?_⟩
        cases qq : s c e1 S1 with
        | nx e2 S2 => rw [qq] at h; exact fun σ2 ρ2 H2 st2 s2 er2 => h _ ρ2 H2 (st.trans st2) s2 er2
        | rt d S2 => rw [qq] at h; exact fun v ρ2 H2 st2 s2 r2 => h v ρ2 H2 (st.trans st2) s2 r2
        | bk e2 S2 => rw [qq] at h; exact fun σ2 ρ2 H2 st2 s2 er2 => h _ ρ2 H2 (st.trans st2) s2 er2
        | ct e2 S2 => rw [qq] at h; exact fun σ2 ρ2 H2 st2 s2 er2 => h _ ρ2 H2 (st.trans st2) s2 er2
        | exc c2 e2 S2 => rw [qq] at h; exact h.elim
        | err => rw [qq] at h; exact h.elim
      · subst hbb
        exact h D σ' ρ' H' g st sr' er
end

/-! ### isinstance(e, C), e the exception held -/
def dIsE (tab : List (Str × Bool)) (c : Str) : DE := fun _ S => match tab.lookup c with
  | some b => .ok (.bl b) S
  | none => .err
theorem clsV_ty {n : String} : ∀ u, RelV (.ty n) u → u = .type n := fun _ h => h
theorem clsV_ref {C : Addr} : ∀ u, RelV (.ref C) u → u = .ref C := fun _ h => h
section
variable {X : Cx} {raw : List (Nat × V)} {W : WX} {x n c : Str} {D a : Addr} {oe : Obj} {pn : List (Addr × Obj)} {i : Nat} {p p1 p2 pos : Pos} {cv : V} {C : Value} {tab : List (Str × Bool)}
theorem ex_isE (EC : ExcC X.K D) (hz : Zc (.ref D) none oe) (hd : ∃ vs, oe.data = .fields vs) (gD : X.mg c = some (.ref D)) (T : KitT X.K X.mg tab C) (hcv : ∀ u, RelV cv u → u = C)
    (hcl : PE (X.suite a ((a, oe) :: pn)) (.Name x p2) (tC cv))
    (hg : Gl (X.suite a ((a, oe) :: pn)) "isinstance") (hm : (X.suite a ((a, oe) :: pn)).mg "isinstance" = none) (hN : (X.suite a ((a, oe) :: pn)).N[i]? = some n)
    (hv : Vis (X.suite a ((a, oe) :: pn)).env.scope n) (hdb : (n == ("__debug__" : Str)) = false := by decide) (hcd : (n == ("__classdict__" : Str)) = false := by decide)
    (hs : starEach [Expr.Name n p1, .Name x p2] (X.suite a ((a, oe) :: pn)).env = (false, eval (Expr.Name n p1) (X.suite a ((a, oe) :: pn)).env) :: starEach [.Name x p2] (X.suite a ((a, oe) :: pn)).env := by rfl) (hpl : (backTo pos (starEach [.Name x p2] (X.suite a ((a, oe) :: pn)).env)).any (·.1) = false := by rfl) :
    EX (X.suite a ((a, oe) :: pn)) ((i, .ref a) :: raw) W (.Call (.Name "isinstance" p) [.Name n p1, .Name x p2] [] pos) (dIsE tab c) := by
  refine PE.imp (pe_callB (call_isE EC hz hd) hg hm (by decide +kernel) (pa_cons (pe_var hN hv hdb hcd) (pa_cons hcl pa_nil) hs) (he := hs) (hpl := hpl)) fun σ H Q ⟨ρ, env, S, e, s, h⟩ => ?_
  unfold dIsE at h
  cases q : tab.lookup c with
  | none => simp only [q] at h; exact h.elim
  | some b =>
    simp only [q] at h
    exact ⟨.ref a, e.raw _ List.mem_cons_self, cv, C, b, rfl, hcv, T c b D q gD, post_val h s (.bl _)⟩
/-- isinstance(e, (C1, C2, ..)) -/
def rIsET (K : Fg) (D a : Addr) : List V → Hp → VK → Prop := fun xs H Q => ∃ (tp : Addr) (cs : List V) (us : List Value) (b : Bool), xs = [.ref a, .ref tp] ∧ H tp = some (.tup cs) ∧ Paired (fun v C => ∀ u, RelV v u → u = C) cs us ∧ PySem.W.kitAny K (.ref D) us = some b ∧ Q (.bl b) H
theorem paired_all : ∀ {cs : List V} {us ws : List Value}, Paired (fun v C => ∀ u, RelV v u → u = C) cs us → Vals cs ws → ws = us
  | _, _, _, .nil, .nil => rfl
  | _, _, _, .cons c k, .cons r t => by rw [c _ r, paired_all k t]
theorem call_isET (EC : ExcC X.K D) (hz : Zc (.ref D) none oe) (hf : ∃ vs, oe.data = .fields vs) : CallR (X.suite a ((a, oe) :: pn)) (.builtin "isinstance") (rIsET X.K D a) := by
  intro pins s σ H xs us Q I r h
  obtain ⟨tp, cs, ws, b, rfl, hT, k, e, q⟩ := h
  cases r with
  | cons rx rr =>
    cases rr with
    | cons rt rr =>
      cases rr
      cases rx
      cases rt
      obtain ⟨hget, _⟩ := I.pin (a, oe) (List.mem_append.mpr (.inl List.mem_cons_self))
      obtain ⟨vs, hv⟩ := hf
      have J : PySem.W.InstAt s.heap a oe D none := by
        obtain ⟨oc, od, oda, osl⟩ := oe
        obtain ⟨h1, h2⟩ := hz
        dsimp only at h1 h2 hv
        subst h1 h2 hv
        exact ⟨hget, rfl, rfl, trivial⟩
      obtain ⟨_, its, rv, o, h1, h2, n, h3⟩ := (show ObjOk X.prog X.w H s.heap tp (.tup cs) from I.hok tp _ hT)
      have e3 := paired_all k rv
      subst e3
      obtain ⟨oc, od, dt, sl⟩ := o
      simp only at h2 h3
      subst h2 h3
      exact PySem.W.kia_tup (PySem.W.handS_kitx_exc EC.hg EC.hk EC.hs EC.hd EC.ha EC.hn EC.ht EC.hm) I.kIn J h1 e (fun z => nomatch z) fun tk => ⟨.bl b, H, I.kept (t' := tk) fun _ _ z => z, rfl, q⟩
def tCs (vs : List V) : TA := fun _ H Q => Q vs H
theorem pa_cs0 {X : Cx} : PA X [] (tCs []) := pa_nil
theorem pa_cs1 {X : Cx} {e : Expr} {es : List Expr} {v : V} {vs : List V} (h : PE X e (tC v)) (r : PA X es (tCs vs)) (hs : starEach (e :: es) X.env = (false, eval e X.env) :: starEach es X.env := by rfl) : PA X (e :: es) (tCs (v :: vs)) := pa_cons h r hs
/-- tables of several classes: or -/
def orT : List (List (Str × Bool)) → Str → Option Bool
  | [], _ => some false
  | t :: r, c => match t.lookup c with
    | some true => some true
    | some false => orT r c
    | none => none
def dIsET (tabs : List (List (Str × Bool))) (c : Str) : DE := fun _ S => match orT tabs c with
  | some b => .ok (.bl b) S
  | none => .err
inductive KitTs (K : Fg) (mg : Mg) : List (List (Str × Bool)) → List V → List Value → Prop
  | nil : KitTs K mg [] [] []
  | cons {t : List (Str × Bool)} {ts : List (List (Str × Bool))} {v : V} {vs : List V} {C : Value} {Cs : List Value} : (∀ u, RelV v u → u = C) → KitT K mg t C → KitTs K mg ts vs Cs → KitTs K mg (t :: ts) (v :: vs) (C :: Cs)
theorem KitTs.pd {K : Fg} {mg : Mg} : ∀ {ts : List (List (Str × Bool))} {vs : List V} {Cs : List Value}, KitTs K mg ts vs Cs → Paired (fun v C => ∀ u, RelV v u → u = C) vs Cs
  | _, _, _, .nil => .nil
  | _, _, _, .cons h _ r => .cons h r.pd
theorem KitTs.any {K : Fg} {mg : Mg} (g : mg c = some (.ref D)) : ∀ {ts : List (List (Str × Bool))} {vs : List V} {Cs : List Value} {b : Bool}, KitTs K mg ts vs Cs → orT ts c = some b → PySem.W.kitAny K (.ref D) Cs = some b
  | _, _, _, _, .nil, h => h
  | _, _, _, b, .cons (t := t) _ k r, h => by
    unfold orT at h
    cases q : t.lookup c with
    | none => rw [q] at h; cases h
    | some bb =>
      rw [q] at h
      cases bb with
      | true => cases h; exact kitAny_cons (k c true D q g) (fun z => nomatch z) fun _ => rfl
      | false => exact kitAny_cons (k c false D q g) (fun _ => r.any g h) fun z => nomatch z
theorem ex_isET {es : List Expr} {x1 : Nat} {cs : List V} {Cs : List Value} {tabs : List (List (Str × Bool))} (EC : ExcC X.K D) (hz : Zc (.ref D) none oe) (hd : ∃ vs, oe.data = .fields vs) (gD : X.mg c = some (.ref D)) (T : KitTs X.K X.mg tabs cs Cs)
    (hl : decide (cs.length ≤ 100) = true)
    (hcl : PA (X.suite a ((a, oe) :: pn)) es (tCs cs))
    (hg : Gl (X.suite a ((a, oe) :: pn)) "isinstance") (hm : (X.suite a ((a, oe) :: pn)).mg "isinstance" = none) (hN : (X.suite a ((a, oe) :: pn)).N[i]? = some n)
    (hv : Vis (X.suite a ((a, oe) :: pn)).env.scope n) (hdb : (n == ("__debug__" : Str)) = false := by decide) (hcd : (n == ("__classdict__" : Str)) = false := by decide)
    (hs : starEach [Expr.Name n p1, .Tuple es x1 p2] (X.suite a ((a, oe) :: pn)).env = (false, eval (Expr.Name n p1) (X.suite a ((a, oe) :: pn)).env) :: starEach [.Tuple es x1 p2] (X.suite a ((a, oe) :: pn)).env := by rfl) (hpl : (backTo pos (starEach [.Tuple es x1 p2] (X.suite a ((a, oe) :: pn)).env)).any (·.1) = false := by rfl) :
    EX (X.suite a ((a, oe) :: pn)) ((i, .ref a) :: raw) W (.Call (.Name "isinstance" p) [.Name n p1, .Tuple es x1 p2] [] pos) (dIsET tabs c) := by
  refine PE.imp (pe_callB (call_isET EC hz hd) hg hm (by decide +kernel) (pa_cons (pe_var hN hv hdb hcd) (pa_cons (pe_tup hcl) pa_nil) hs) (he := hs) (hpl := hpl)) fun σ H Q ⟨ρ, env, S, e, s, h⟩ => ?_
  unfold dIsET at h
  cases q : orT tabs c with
  | none => simp only [q] at h; exact h.elim
  | some b =>
    simp only [q] at h
    refine ⟨.ref a, e.raw _ List.mem_cons_self, by have := of_decide_eq_true hl; rw [lim_eq]; unfold lim; omega, fun tp hp => ⟨tp, cs, Cs, b, rfl, upd_same, T.pd, T.any gD q, ?_⟩⟩
    exact h _ ρ _ (stp_val hp) (s.val hp) (.bl _)
end
end RL

namespace RL
open PySem PySem.Spec PyProof.Rows L2

/-! ### sorted(x) -/
def srcL (x : D) (S : Sto) : Option (List D) := match x with
  | .tup ds => some ds
  | .scr ds => some ds
  | .ref n => match S[n]? with
    | some (.lst ds) => some ds
    | some (.dict kvs) => some (kvs.map (·.1))
    | _ => none
  | _ => none
def isTup1 : PyData → Bool
  | .tuple (_ :: _) => true
  | _ => false
def notTN : PyData → Bool
  | .none => false
  | .tuple _ => false
  | _ => true
def sortableB (ps : List PyData) : Bool := ps.all isTup1 || ps.all notTN
noncomputable def sortZ (ds : List D) (ps : List PyData) : List (D × PyData) := (ds.zip ps).mergeSort (PySem.W.dataLe false (fun b : D × PyData => b.2))
noncomputable def sortP (S : Sto) (ds : List D) : Option (List D) := match ds.mapM (toP S 24) with
  | some ps => if (ps.all fun p => ps.all fun q => PySem.W.alike p q) = true ∧ sortableB ps = true ∧ ds.length ≤ lim then some ((sortZ ds ps).map (·.1)) else none
  | none => none
noncomputable def gSorted : GA := fun xs S => match xs with
  | [x] => match (srcL x S).bind (sortP S) with
    | some es => .ok (.ref S.length) (S ++ [.lst es])
    | none => .err
  | _ => .err
def rSo (K : Fg) (mg : Mg) : List V → Hp → VK → Prop := fun xs H Q => ∃ x ρ d ds es S, xs = [x] ∧ Rep K ρ H x d ∧ SR K mg ρ H S ∧ srcL d S = some ds ∧ sortP S ds = some es ∧ ∀ p vs, H p = none → RepL K ρ H vs es → Q (.ref p) (upd H p (.lst vs))
theorem okSorted {K : Fg} {mg : Mg} : OkA K mg (rSo K mg) gSorted := by
  intro W ρ H σ S xs ds Q s r h
  unfold gSorted at h
  split at h
  · cases r with
    | cons r t =>
      cases t
      split at h
      · rename_i es e
        obtain ⟨cs, e1, e2⟩ := Option.bind_eq_some_iff.mp e
        exact ⟨_, ρ, _, cs, es, S, rfl, r, s, e1, e2, fun p vs hp rl => post_lst h s rl p hp⟩
      · exact h.elim
  · exact h.elim
theorem RepL.zip_each {K : Fg} {ρ : List Addr} {H : Hp} {S : Sto} : ∀ {us : List Value} {vs : List V} {ds : List D} {ps : List PyData}, Vals vs us → RepL K ρ H vs ds → Paired (fun a b => toP S 24 a = some b) ds ps →
    PySem.W.EachIs (fun (u : Value) (b : D × PyData) => ∃ v, RelV v u ∧ Rep K ρ H v b.1 ∧ toP S 24 b.1 = some b.2) us (ds.zip ps)
  | _, _, _, _, .nil, .nil, .nil => .nil
  | _, _, _, _, .cons a r, .cons b t, .cons c q => .cons ⟨_, a, b, c⟩ (RepL.zip_each r t q)
theorem RepL.of_each {K : Fg} {ρ : List Addr} {H : Hp} {S : Sto} : ∀ {us : List Value} {bs : List (D × PyData)}, PySem.W.EachIs (fun (u : Value) (b : D × PyData) => ∃ v, RelV v u ∧ Rep K ρ H v b.1 ∧ toP S 24 b.1 = some b.2) us bs →
    ∃ vs, Vals vs us ∧ RepL K ρ H vs (bs.map (·.1))
  | _, _, .nil => ⟨[], .nil, .nil⟩
  | _, _, .cons ⟨v, a, b, _⟩ r => let ⟨vs, p, q⟩ := RepL.of_each r; ⟨v :: vs, .cons a p, .cons b q⟩
theorem paired_zip_snd {S : Sto} : ∀ {ds : List D} {ps : List PyData}, Paired (fun a b => toP S 24 a = some b) ds ps → (ds.zip ps).map (·.2) = ps ∧ ds.length = ps.length ∧ ∀ b ∈ ds.zip ps, toP S 24 b.1 = some b.2
  | _, _, .nil => ⟨rfl, rfl, fun _ h => nomatch h⟩
  | _, _, .cons c q => by
    obtain ⟨h1, h2, h3⟩ := paired_zip_snd q
    refine ⟨by simp [h1], by simp [h2], fun b hb => ?_⟩
    rcases List.mem_cons.mp hb with rfl | hb
    · exact c
    · exact h3 b hb
theorem sortable_is {ps : List PyData} (h : sortableB ps = true) : PySem.W.Sortable ps := by
  unfold sortableB at h
  rcases Bool.or_eq_true_iff.mp h with h | h
  · refine .inl fun d hd => ?_
    have := List.all_eq_true.mp h d hd
    unfold isTup1 at this
    split at this
    · exact ⟨_, _, rfl⟩
    · cases this
  · refine .inr fun d hd => ?_
    have := List.all_eq_true.mp h d hd
    unfold notTN at this
    split at this
    · cases this
    · cases this
    · rename_i h1 h2; exact ⟨h1, h2⟩
section
variable {X : Cx} {pins : List (Addr × Obj)} {σ : L2.St} {H : Hp} {s : Shared}
/-- what is behind the gathering -/
theorem sorted_rest {ρ : List Addr} {S : Sto} {h' : Heap} {tk : Nat} {us : List Value} {vs : List V} {ds es : List D} {Q : VK} (hu : X.A.units + 64 < cLine) (I : Inv X pins σ H s) (k : ∀ b o, s.heap.get? b = some o → h'.get? b = some o)
    (sr : SR X.K X.mg ρ H S) (rv : Vals vs us) (rl : RepL X.K ρ H vs ds) (hs : sortP S ds = some es) (q : ∀ p vs, H p = none → RepL X.K ρ H vs es → Q (.ref p) (upd H p (.lst vs))) {T : Fin → Shared → Prop} {E : Value → Shared → Prop}
    (hT : ∀ s', EP X pins σ Q (.ref h'.objs.size) s' → T (.done (.ret (.ref h'.objs.size))) s') :
    wpAny (model X.prog X.w) X.A.in1 (do let l ← newList us; let _ ← holding [l] (call (.builtin "list.sort") [l]); ret l) T E { s with heap := h', toks := tk } := by
  unfold sortP at hs
  split at hs
  · rename_i ps eps
    split at hs
    · rename_i hc
      obtain ⟨hal, hso, hlen⟩ := hc
      cases hs
      have hp := mapM_some eps
      obtain ⟨hz1, hz2, hz3⟩ := paired_zip_snd hp
      have hl := rl.length
      have hl2 := rv.length
      have I1 : Inv X pins σ H { s with heap := h', toks := tk } := I.kept (t' := tk) k
      have e := RepL.zip_each rv rl hp
      have hsz : us.length ≤ sizeLine := by rw [lim_eq]; omega
      refine wpAny_bind (wpAny_newList ?_ hsz)
      have hoL : (h'.push (seqObj "list" us.toArray 0)).get? h'.objs.size = some (seqObj "list" us.toArray 0) := Heap.get?_push_size _ rfl
      show wpAny _ _ _ _ _ { s with heap := h'.push (seqObj "list" us.toArray 0), toks := tk }
      have er : PySem.W.EachIs (fun v (b : D × PyData) => ∃ as, Reads (PySem.W.sortingHeap (h'.push (seqObj "list" us.toArray 0)) h'.objs.size us) v b.2 as) us (ds.zip ps) := by
        refine e.mono fun u b ⟨v, a, r, tp⟩ => ?_
        obtain ⟨as, rd⟩ := Dp.reads I1 b.2 v u (dp_of sr _ _ _ _ r tp) a
        refine ⟨as, PyProof.Rows.Reads.keeps (fun b o hb => ?_) rd⟩
        have hlt : b < h'.objs.size := Heap.lt_size hb
        exact PySem.W.sortingHeap_old (Nat.ne_of_lt hlt) (Heap.get?_push_of_some _ hb)
      have hal' : PySem.W.AllAlike ((ds.zip ps).map (·.2)) := by
        rw [hz1]
        intro d hd d' hd'
        exact List.all_eq_true.mp (List.all_eq_true.mp hal d hd) d' hd'
      have hso' : PySem.W.Sortable ((ds.zip ps).map (·.2)) := by rw [hz1]; exact sortable_is hso
      have hdep : ∀ b ∈ ds.zip ps, X.A.in1.units + 1 + b.2.depth < cLine := by
        intro b hb
        have := (toP_lay _ _ _ (hz3 b hb)).2
        show X.A.units + 1 + 1 + _ < _
        omega
      refine wpAny_bind (wpAny_holding (wpAny_call_entry PyProof.Rows.slot_list_sort ⟨_, hoL, rfl⟩ PyProof.Rows.entry_list_sort
        (PySem.W.list_sort_vals (κ := PySem.W.dataKind (PySem.W.sortingHeap (h'.push (seqObj "list" us.toArray 0)) h'.objs.size us) ((ds.zip ps).map (·.2))) hoL
          (PySem.W.SortsAt.data (s := { s with heap := PySem.W.sortingHeap (h'.push (seqObj "list" us.toArray 0)) h'.objs.size us, toks := tk }) (PySem.W.each_map (R := fun v d => ∃ as, Reads (PySem.W.sortingHeap (h'.push (seqObj "list" us.toArray 0)) h'.objs.size us) v d as) (fun b : D × PyData => b.2) er) hal' hso' (PySem.W.bound_map hdep)) hsz ⟨.none, rfl, ?_⟩) (PyProof.Rows.args_list_sort _)))
      have eo := PySem.W.sortVals_data (h' := PySem.W.sortingHeap (h'.push (seqObj "list" us.toArray 0)) h'.objs.size us) false e er hal'
      obtain ⟨ws, rw1, rw2⟩ := RepL.of_each eo
      obtain ⟨e', he'⟩ := PyProof.Rows.sortedHeap_at (vs := us) (out := (PySem.W.sortVals (PySem.W.dataKind (PySem.W.sortingHeap (h'.push (seqObj "list" us.toArray 0)) h'.objs.size us) ((ds.zip ps).map (·.2))) false us us).toArray) hoL
      have hl3 : ws.length ≤ sizeLine := by
        rw [rw1.length, PySem.W.sortVals_length false rfl]; exact hsz
      refine wpAny_pure (hT _ ⟨.ref h'.objs.size, upd H h'.objs.size (.lst ws), I1.laid (t' := tk) (fun b u e => ?_) (Nat.le_refl _)
        (show ObjOk X.prog X.w _ _ _ (.lst ws) from ⟨hl3, _, e', rw1, he'⟩), rfl, q _ ws (I1.hok.fresh (Nat.le_refl _)) rw2⟩)
      have hb : b < h'.objs.size := Heap.lt_size e
      rw [PyProof.Rows.sortedHeap_old (Nat.ne_of_lt hb) (by rw [size_push']; exact Nat.lt_succ_of_lt hb)]
      exact Heap.get?_push_of_some _ e
    · cases hs
  · cases hs
end
theorem keys_vals : ∀ {us : List Value} {ks : List (Key × V)}, us.length = ks.length → (∀ (j : Nat) (v : Value), us[j]? = some v → ∃ k, (ks.map (·.1))[j]? = some k ∧ keyIs k v = true) → Vals (ks.map fun kv => kV kv.1) us
  | [], [], _, _ => .nil
  | u :: us, k :: ks, hl, h => by
    obtain ⟨k', e1, e2⟩ := h 0 u rfl
    have e1' : k.1 = k' := Option.some.inj e1
    subst e1'
    refine .cons ?_ (keys_vals (by simpa using hl) fun j v e => by simpa using h (j + 1) v (by simpa using e))
    rcases keyIs_shape e2 with ⟨i, t, ek, ev⟩ | ⟨z, t, ek, ev⟩
    · show RelV (kV k.1) u
      rw [ek, ev]; exact ⟨t, rfl⟩
    · show RelV (kV k.1) u
      rw [ek, ev]; exact ⟨t, rfl⟩
  | [], _ :: _, hl, _ => by simp at hl
  | _ :: _, [], hl, _ => by simp at hl
theorem keys_rep {K : Fg} {ρ : List Addr} {H : Hp} : ∀ {ks : List (Key × V)} {kvs : List (D × D)}, RepKV K ρ H ks kvs → RepL K ρ H (ks.map fun kv => kV kv.1) (kvs.map (·.1))
  | _, _, .nil => .nil
  | _, _, .cons (k := k) r t => .cons (match k with | .inl i => .int i | .inr x => .str x) (keys_rep t)
section
variable {X : Cx}
theorem call_sortedX (hc : X.calm = true) (hu : X.A.units + 64 < cLine) : CallR X (.builtin "sorted") (rSo X.K X.mg) := by
  intro pins s σ H xs us Q I r h
  obtain ⟨x, ρ, d, ds, es, S, rfl, rd, sr, e1, e2, q⟩ := h
  obtain ⟨u, rfl, rx⟩ := vals1 r
  refine Calls.call_function_entry PyProof.Rows.kind_sorted PyProof.Rows.plain_sorted PyProof.Rows.entry_sorted (PyProof.Rows.args_sorted1 _) ?_
  unfold Builtin.«sorted»
  refine wpAny_bind (m := checkCount "sorted" 1 1 _) (wpAny_pure ?_)
  cases rd with
  | tup hq l =>
    cases rx
    cases e1
    obtain ⟨its, rv, ⟨o, h1, h2, n, h3⟩, hz⟩ := I.tuple hq
    refine wpAny_bind (wpAny_collect_seq _ (.inr rfl) h1 h2 h3 (fun h' k => ?_) (by rw [List.size_toArray, ← rv.length]; exact hz))
    exact sorted_rest (h' := h') (tk := s.toks) hu I k sr (by simpa using rv) l e2 q fun s' z => ⟨_, rfl, z⟩
  | scr hq l =>
    cases rx
    cases e1
    obtain ⟨its, rv, ⟨o, n, h1, h2, h3⟩, hz⟩ := I.list hq.sq
    refine wpAny_bind (wpAny_collect_seq _ (.inl rfl) h1 h2 h3.2 (fun h' k => ?_) (by rw [List.size_toArray, ← rv.length]; exact hz))
    exact sorted_rest (h' := h') (tk := s.toks) hu I k sr (by simpa using rv) l e2 q fun s' z => ⟨_, rfl, z⟩
  | ref hn =>
    cases rx
    unfold srcL at e1
    dsimp only at e1
    split at e1
    · rename_i ds' hS
      cases e1
      obtain ⟨xs, hx, l⟩ := sr.ob _ _ _ hS hn
      obtain ⟨its, rv, ⟨o, n, h1, h2, h3⟩, hz⟩ := I.list (.of hx)
      refine wpAny_bind (wpAny_collect_seq _ (.inl rfl) h1 h2 h3.2 (fun h' k => ?_) (by rw [List.size_toArray, ← rv.length]; exact hz))
      exact sorted_rest (h' := h') (tk := s.toks) hu I k sr (by simpa using rv) l e2 q fun s' z => ⟨_, rfl, z⟩
    · rename_i kvs hS
      cases e1
      obtain ⟨ks, hx, l⟩ := sr.ob _ _ _ hS hn
      obtain ⟨z, lo, vs, rel, dd⟩ := dk_rd I.hok (.of hx)
      obtain ⟨ep, hat⟩ := dd.dictAt
      have hkeys : vs.map (·.1) = ks.map (·.1) := rel.keys.symm
      have hl : vs.length = ks.length := by
        have e := congrArg List.length hkeys
        rw [List.length_map, List.length_map] at e
        exact e
      refine wpAny_bind (PySem.W.kdu_collect (A := X.A.in1) (PySem.W.kdl_dict (knd := mixKind X.prog X.w) (kvs := vs) (ep := ep) lo) (I.ok.hd hc) hat (by rw [hl]; exact z) fun h' tk acc hk hacc => ?_)
      have rv : Vals (ks.map fun kv => kV kv.1) acc.toList := keys_vals (by rw [Array.length_toList, hacc.1, hl]) fun j v e => by
        obtain ⟨k, x, e1, e2⟩ := hacc.2 j v (by rw [← Array.getElem?_toList]; exact e)
        exact ⟨k, by rw [← hkeys, List.getElem?_map, e1]; rfl, e2⟩
      exact sorted_rest (h' := h') (tk := tk) hu I hk sr rv (keys_rep l) e2 q fun s' z => ⟨_, rfl, z⟩
    · cases e1
  | non => cases e1
  | bl => cases e1
  | int => cases e1
  | str => cases e1
end
end RL

namespace RL
open PySem PySem.Spec PyProof.Rows L2

/-! ### zip of two tuples, or of two lists -/
def zipD (xs ys : List D) : List D := (xs.zip ys).map fun p => .tup [p.1, p.2]
def lstG (x : D) (S : Sto) : Option (List D × List (Nat × O)) := match x with
  | .scr ds => some (ds, [])
  | .ref n => match S[n]? with
    | some (.lst ds) => some (ds, [(n, .lst ds)])
    | _ => none
  | _ => none
def zipOf (xs : List D) (S : Sto) : R ItD := match xs with
  | [.tup a, .tup b] => .ok ⟨zipD a b, []⟩ S
  | [x, y] => match lstG x S, lstG y S with
    | some (a, g), some (b, g') => .ok ⟨zipD a b, g ++ g'⟩ S
    | _, _ => .err
  | _ => .err
def dZip (fs : DA) : DI := fun env S => (fs env S).bind zipOf
theorem grd_app {g g' : List (Nat × O)} {S : Sto} (h : Grd (g ++ g') S) : Grd g S ∧ Grd g' S := ⟨fun p hp => h p (List.mem_append_left _ hp), fun p hp => h p (List.mem_append_right _ hp)⟩
section
variable {K : Fg} {mg : Mg} {ρ : List Addr} {H : Hp}
theorem zipD_at {xs ys : List D} {i : Nat} {x y : D} (h1 : xs[i]? = some x) (h2 : ys[i]? = some y) : (zipD xs ys)[i]? = some (.tup [x, y]) := by
  unfold zipD
  rw [List.getElem?_map, (List.getElem?_zip_eq_some (z := (x, y))).mpr ⟨h1, h2⟩]
  rfl
theorem zipD_len {xs ys : List D} : (zipD xs ys).length = min xs.length ys.length := by unfold zipD; simp
theorem wk_zipT {a b : Addr} {xs ys : List V} {ds es : List D} (ha : SqT K H a xs) (la : RepL K ρ H xs ds) (hb : SqT K H b ys) (lb : RepL K ρ H ys es) : Wk K mg (RZ.ItzT K a b) ρ H ⟨zipD ds es, []⟩ where
  go := fun i H' ρ' S hi st s g => by
    rw [zipD_len] at hi
    exact ⟨xs, ys, xs[i]'(by rw [la.length]; omega), ys[i]'(by rw [lb.length]; omega), st.sqT ha, st.sqT hb, by simp, by simp⟩
  stop := fun i H' ρ' S hi st s g => by
    rw [zipD_len] at hi
    exact ⟨xs, ys, st.sqT ha, st.sqT hb, by rw [la.length, lb.length]; omega⟩
  yld := fun i H' ρ' S v H2 hi st s g ⟨T, x, y, e1, e2, e3, e4, e5⟩ => by
    rw [zipD_len] at hi
    subst e1; subst e3
    have hx := e4 xs (st.sqT ha)
    have hy := e5 ys (st.sqT hb)
    have hi1 : i < ds.length := by omega
    have hi2 : i < es.length := by omega
    obtain ⟨v1, q1, r1⟩ := la.get (List.getElem?_eq_getElem hi1)
    obtain ⟨v2, q2, r2⟩ := lb.get (List.getElem?_eq_getElem hi2)
    rw [hx] at q1; cases q1
    rw [hy] at q2; cases q2
    exact ⟨_, zipD_at (List.getElem?_eq_getElem hi1) (List.getElem?_eq_getElem hi2), .tup (.of upd_same) (.cons ((r1.mono st).mono (stp_val e2)) (.cons ((r2.mono st).mono (stp_val e2)) .nil)), stp_val e2, s.val e2⟩
/-- a list as it stands now -/
def LsG (K : Fg) (mg : Mg) (ρ : List Addr) (H : Hp) (a : Addr) (ds : List D) (g : List (Nat × O)) : Prop := ∀ ρ' H' S, Stp ρ H ρ' H' → SR K mg ρ' H' S → Grd g S → ∃ xs, SqL K H' a xs ∧ RepL K ρ' H' xs ds
theorem lstG_is {S : Sto} {x : D} {v : V} {ds : List D} {g : List (Nat × O)} (r : Rep K ρ H v x) (h : lstG x S = some (ds, g)) : ∃ a, v = .ref a ∧ LsG K mg ρ H a ds g := by
  unfold lstG at h
  cases r with
  | scr hq l => cases h; exact ⟨_, rfl, fun ρ' H' S' st s gg => ⟨_, (st.fz hq).sq, l.mono st⟩⟩
  | ref hn =>
    dsimp only at h
    split at h
    · cases h
      refine ⟨_, rfl, fun ρ' H' S' st s gg => ?_⟩
      obtain ⟨xs, hx, l⟩ := s.ob _ _ _ (gg _ List.mem_cons_self) (st.at hn)
      exact ⟨xs, .of hx, l⟩
    · cases h
  | _ => cases h
theorem wk_zipL {a b : Addr} {ds es : List D} {g g' : List (Nat × O)} (ha : LsG K mg ρ H a ds g) (hb : LsG K mg ρ H b es g') : Wk K mg (Itz K a b) ρ H ⟨zipD ds es, g ++ g'⟩ where
  go := fun i H' ρ' S hi st s gg => by
    rw [zipD_len] at hi
    obtain ⟨xs, h1, l1⟩ := ha _ _ _ st s (grd_app gg).1
    obtain ⟨ys, h2, l2⟩ := hb _ _ _ st s (grd_app gg).2
    exact ⟨xs, ys, xs[i]'(by rw [l1.length]; omega), ys[i]'(by rw [l2.length]; omega), h1, h2, by simp, by simp⟩
  stop := fun i H' ρ' S hi st s gg => by
    rw [zipD_len] at hi
    obtain ⟨xs, h1, l1⟩ := ha _ _ _ st s (grd_app gg).1
    obtain ⟨ys, h2, l2⟩ := hb _ _ _ st s (grd_app gg).2
    exact ⟨xs, ys, h1, h2, by rw [l1.length, l2.length]; omega⟩
  yld := fun i H' ρ' S v H2 hi st s gg ⟨T, x, y, e1, e2, e3, e4, e5⟩ => by
    rw [zipD_len] at hi
    obtain ⟨xs, h1, l1⟩ := ha _ _ _ st s (grd_app gg).1
    obtain ⟨ys, h2, l2⟩ := hb _ _ _ st s (grd_app gg).2
    subst e1; subst e3
    have hx := e4 xs h1
    have hy := e5 ys h2
    have hi1 : i < ds.length := by omega
    have hi2 : i < es.length := by omega
    obtain ⟨v1, q1, r1⟩ := l1.get (List.getElem?_eq_getElem hi1)
    obtain ⟨v2, q2, r2⟩ := l2.get (List.getElem?_eq_getElem hi2)
    rw [hx] at q1; cases q1
    rw [hy] at q2; cases q2
    exact ⟨_, zipD_at (List.getElem?_eq_getElem hi1) (List.getElem?_eq_getElem hi2), .tup (.of upd_same) (.cons (r1.mono (stp_val e2)) (.cons (r2.mono (stp_val e2)) .nil)), stp_val e2, s.val e2⟩
theorem LsG.now {S : Sto} {x : D} {v : V} {ds : List D} {g : List (Nat × O)} (s : SR K mg ρ H S) (r : Rep K ρ H v x) (h : lstG x S = some (ds, g)) : ∃ a, v = .ref a ∧ LsG K mg ρ H a ds g ∧ ∃ xs, SqL K H a xs ∧ RepL K ρ H xs ds := by
  obtain ⟨a, e, q⟩ := lstG_is (mg := mg) r h
  refine ⟨a, e, q, q ρ H S (Stp.refl _ _) s ?_⟩
  unfold lstG at h
  split at h
  · cases h; exact fun _ h => nomatch h
  · split at h
    · rename_i hS
      cases h
      intro p hp
      obtain rfl := List.mem_singleton.mp hp
      exact hS
    · cases h
  · cases h
end
section
variable {X : Cx} {raw : List (Nat × V)} {W : WX} {pos p tpos : Pos} {e e2 : Expr} {elts : List Expr} {kk : Nat} {fs : DA}
theorem ix_zip (hg : Gl X "zip") (hm : X.mg "zip" = none) (ha : AX X raw W [e, e2] fs)
    (hs : starEach [e, e2] X.env = (false, eval e X.env) :: starEach [e2] X.env := by rfl) (hpl : (backTo pos (starEach [e2] X.env)).any (·.1) = false := by rfl) :
    IX X raw W (.Tuple elts kk tpos) (.Call (.Name "zip" p) [e, e2] [] pos) (dZip fs) :=
  PI.imp (RZ.pi_zipA hg hm ha hs hpl) fun σ H Q ⟨ρ, env, S, e, s, h⟩ => tG_bindI e s h fun d S1 v ρ1 H1 st e1 s1 r1 h1 => by
    unfold zipOf at h1
    split at h1
    · cases r1 with
      | cons ra t =>
        cases t with
        | cons rb t =>
          cases t
          cases ra with
          | tup ha la =>
            cases rb with
            | tup hb lb => exact ⟨_, _, _, _, rfl, .inr ⟨ha, hb, h1 _ ρ1 H1 (Stp.refl _ _) s1 (wk_zipT ha la hb lb)⟩⟩
    · cases r1 with
      | cons ra t =>
        cases t with
        | cons rb t =>
          cases t
          split at h1
          · rename_i a g b g' ea eb
            obtain ⟨x, rfl, qa, xs, ha, la⟩ := LsG.now s1 ra ea
            obtain ⟨y, rfl, qb, ys, hb, lb⟩ := LsG.now s1 rb eb
            exact ⟨_, _, _, _, rfl, .inl ⟨ha, hb, h1 _ ρ1 H1 (Stp.refl _ _) s1 (wk_zipL qa qb)⟩⟩
          · exact h1.elim
    · exact h1.elim
end

/-! ### x.pop(k), x a list or a dict -/
def dPop1 (fo : DE) (fs : DA) : DE := fun env S => match fo env S with
  | .ok (.ref n) S1 => match S1[n]? with
    | some (.lst _) => dMt "list" gPopAt fo fs env S
    | some (.dict _) => dMt "dict" gDPop fo fs env S
    | _ => .err
  | .exc c S1 => .exc c S1
  | _ => .err
section
variable {X : Cx} {raw : List (Nat × V)} {W : WX} {o e : Expr} {fo : DE} {fs : DA} {apos cpos : Pos}
theorem ex_pop1 (hu : X.A.units + 1 < cLine) (ho : EX X raw W o fo) (ha : AX X raw W [e] fs) (hL : EX X raw W (.Call (.Attribute o "pop" apos) [e] [] cpos) (dMt "list" gPopAt fo fs)) (hD : EX X raw W (.Call (.Attribute o "pop" apos) [e] [] cpos) (dMt "dict" gDPop fo fs)) :
    EX X raw W (.Call (.Attribute o "pop" apos) [e] [] cpos) (dPop1 fo fs) := ⟨fun pins t σ H Q I ⟨ρ, env, S, er, sr, h⟩ => by
  cases q : fo env S with
  | err => unfold dPop1 at h; rw [q] at h; exact h.elim
  | exc c S1 =>
    refine hL.run pins t σ H Q I ⟨ρ, env, S, er, sr, ?_⟩
    unfold dPop1 at h; rw [q] at h
    unfold dMt; rw [q]; exact h
  | ok d S1 =>
    unfold dPop1 at h
    rw [q] at h
    split at h
    · rename_i n S2 e3
      cases e3
      split at h
      · exact hL.run pins t σ H Q I ⟨ρ, env, S, er, sr, h⟩
      · exact hD.run pins t σ H Q I ⟨ρ, env, S, er, sr, h⟩
      · exact h.elim
    · rename_i e3; cases e3
    · exact h.elim⟩
end
end RL
namespace RL
open PySem PySem.Spec PyProof.Rows L2
theorem noraw1 {i j : Nat} {v : V} (h : i ≠ j) : ∀ p ∈ [(i, v)], p.1 ≠ j := fun p hp => by obtain rfl := List.mem_singleton.mp hp; exact h
def ExcTab (K : Fg) (mg : Mg) (sb : List (Str × Bool)) : Prop := ∀ (c : Str) (D : Addr) (b : Bool), sb.lookup c = some b → mg c = some (.ref D) → ExcC K D
theorem ExcTab.nil {K : Fg} {mg : Mg} : ExcTab K mg [] := fun _ _ _ h => nomatch h
theorem ExcTab.cons {K : Fg} {mg : Mg} {c : Str} {b : Bool} {sb : List (Str × Bool)} {D : Addr} (g : mg c = some (.ref D)) (h : ExcC K D) (r : ExcTab K mg sb) : ExcTab K mg ((c, b) :: sb) := fun c' D' b' q m => by
  rw [List.lookup_cons] at q
  cases e : c' == c with
  | true =>
    have e' := beq_iff_eq.mp e
    subst e'
    rw [g] at m; cases m
    exact h
  | false => rw [e] at q; exact r c' D' b' q m
theorem only1 {mg : Mg} {c : Str} {A : Addr} {p : Addr → Prop} (g : mg c = some (.ref A)) (h : p A) : ∀ C, mg c = some (.ref C) → p C := fun C e => by rw [g] at e; cases e; exact h
theorem only2 {mg : Mg} {c d : Str} {A B : Addr} {p : Addr → Addr → Prop} (g : mg c = some (.ref A)) (g' : mg d = some (.ref B)) (h : p A B) : ∀ C D, mg c = some (.ref C) → mg d = some (.ref D) → p C D := fun C D e e' => by rw [g] at e; rw [g'] at e'; cases e; cases e'; exact h
end RL
namespace RL
open PySem PySem.Spec PyProof.Rows L2
theorem blkOk_at {N N1 : List Str} {sc sc1 scope : Scope} {own : List (Str × Nat)} (hN : N = N1) (hs : sc = sc1) (h : blkC N1 sc1 scope own = true) : BlkOk N sc scope own := by
  subst hN; subst hs; exact blkOk_by h
theorem kit_refD {K : Fg} {C D : Addr} {b : Bool} (hd : PySem.W.hasDictIn K C = true) (ht : PySem.W.typeIn K (.ref C) = some (.type "type")) (h : PySem.W.subIn K (.ref D) (.ref C) = some b) (hb : D = C → b = true) : PySem.W.kitOne K (.ref D) (.ref C) = some b := by
  obtain ⟨cd, hc, _⟩ := PySem.W.any_some hd
  unfold PySem.W.kitOne
  by_cases e : D = C
  · rw [if_pos (by rw [e]; exact beq_self_eq_true _), hb e]
  · rw [if_neg (fun z => e (Value.ref.inj (beq_iff_eq.mp z)))]
    show (if ((PySem.W.clsIn K C).isSome && PySem.W.typeIn K (.ref C) == some (.type "type")) = true then PySem.W.subIn K (.ref D) (.ref C) else none) = some b
    rw [if_pos (by rw [hc, ht]; rfl)]
    exact h
theorem kit_tyD {K : Fg} {D : Addr} {T : String} {b : Bool} (hm : PySem.W.kitMeta T = true) (h : PySem.W.subIn K (.ref D) (.type T) = some b) : PySem.W.kitOne K (.ref D) (.type T) = some b := by
  unfold PySem.W.kitOne
  rw [if_neg (show ¬ ((Value.ref D == Value.type T) = true) from fun z => by cases (beq_iff_eq.mp z))]
  show (if PySem.W.kitMeta T = true then PySem.W.subIn K (.ref D) (.type T) else none) = some b
  rw [if_pos hm]; exact h
end RL

namespace RL
open PySem PySem.Spec PyProof.Rows L2

/-! ### isinstance(x, (T1, T2, ..)), built-in types -/
def gIsiA (Ts : List String) : G1 := fun x S => match tyD x S with
  | some t => .ok (.bl (Ts.any fun T => isiT t T)) S
  | none => .err
theorem kitAny_tys {K : Fg} {t : String} (ht : t ∈ ["NoneType", "bool", "int", "str", "tuple", "list", "dict"]) : ∀ {Ts : List String}, (∀ T ∈ Ts, T ∈ ["int", "bool", "str", "tuple", "list", "dict"]) → PySem.W.kitAny K (.type t) (Ts.map Value.type) = some (Ts.any fun T => isiT t T)
  | [], _ => rfl
  | T :: Ts, h => by
    have e : PySem.W.kitOne K (.type t) (.type T) = some (isiT t T) := kit_ty (kitB_is t ht T (h T List.mem_cons_self))
    have ih := kitAny_tys (K := K) ht (Ts := Ts) fun x hx => h x (List.mem_cons_of_mem _ hx)
    rw [List.map_cons, List.any_cons]
    refine kitAny_cons e (fun hb => by rw [hb, Bool.false_or]; exact ih) fun hb => by rw [hb, Bool.true_or]
theorem paired_tys : ∀ {Ts : List String}, Paired ClsV (Ts.map V.ty) (Ts.map Value.type)
  | [] => .nil
  | _ :: _ => .cons (.ty _) paired_tys
section
variable {X : Cx} {raw : List (Nat × V)} {W : WX} {p p2 pos : Pos} {a : Expr} {fa : DE} {es : List Expr} {x1 : Nat} {Ts : List String}
theorem ex_isiA (hT : ∀ T ∈ Ts, T ∈ ["int", "bool", "str", "tuple", "list", "dict"]) (hl : decide (Ts.length ≤ 100) = true) (hg : Gl X "isinstance") (hm : X.mg "isinstance" = none) (ht : PA X es (tCs (Ts.map V.ty))) (ha : EX X raw W a fa)
    (hs : starEach [a, .Tuple es x1 p2] X.env = (false, eval a X.env) :: starEach [.Tuple es x1 p2] X.env := by rfl) (hpl : (backTo pos (starEach [.Tuple es x1 p2] X.env)).any (·.1) = false := by rfl) :
    EX X raw W (.Call (.Name "isinstance" p) [a, .Tuple es x1 p2] [] pos) (dUn (gIsiA Ts) fa) := by
  refine PE.imp (pe_callB call_isiT hg hm (by decide +kernel) (pa_cons ha (pa_cons (pe_tup ht) pa_nil) hs) (he := hs) (hpl := hpl)) fun σ H Q ⟨ρ, env, S, e, s, h⟩ => ?_
  refine tG_bind e s h fun d S1 v ρ1 H1 st e1 s1 r1 h1 => ?_
  unfold gIsiA at h1
  split at h1
  · rename_i t et
    refine ⟨by have := of_decide_eq_true hl; rw [List.length_map, lim_eq]; unfold lim; omega, fun tp hp => ?_⟩
    have s2 := s1.val (o := .tup (Ts.map V.ty)) hp
    refine ⟨v, tp, Ts.map V.ty, .type t, Ts.map Value.type, _, rfl, upd_same, paired_tys, tyD_is s2 (r1.mono (stp_val hp)) et, kitAny_tys (tyD_mem et) hT, ?_⟩
    exact h1 _ ρ1 _ (stp_val hp) s2 (.bl _)
  · exact h1.elim
end

/-! ### x += n -/
def gAddI : G2 := fun x y S => match x, y with
  | .int i, .int j => .ok (.int (i + j)) S
  | _, _ => .err
theorem okAddI {K : Fg} {mg : Mg} : Ok2 K mg (rI0 fun i j => .int (i + j)) gAddI := by
  intro W ρ H σ S x y dx dy Q s rx ry h
  unfold gAddI at h
  split at h
  · cases rx; cases ry
    exact ⟨_, _, rfl, rfl, post_val h s (.int _)⟩
  · exact h.elim

/-! ### enumerate of a list -/
def enumD (xs : List D) : List D := (List.range xs.length).zipWith (fun i d => .tup [.int (i : Nat), d]) xs
def enumOf (x : D) (S : Sto) : R ItD := match lstG x S with
  | some (a, g) => .ok ⟨enumD a, g⟩ S
  | none => .err
theorem enumD_len {xs : List D} : (enumD xs).length = xs.length := by unfold enumD; simp
theorem enumD_at {xs : List D} {i : Nat} {x : D} (h : xs[i]? = some x) : (enumD xs)[i]? = some (.tup [.int (i : Nat), x]) := by
  obtain ⟨hi, rfl⟩ := List.getElem?_eq_some_iff.mp h
  unfold enumD
  rw [List.getElem?_zipWith]
  simp [hi]
theorem wk_enum {K : Fg} {mg : Mg} {ρ : List Addr} {H : Hp} {a : Addr} {ds : List D} {g : List (Nat × O)} (ha : LsG K mg ρ H a ds g) : Wk K mg (Ite K a) ρ H ⟨enumD ds, g⟩ where
  go := fun i H' ρ' S hi st s gg => by
    rw [enumD_len] at hi
    obtain ⟨xs, h1, l1⟩ := ha _ _ _ st s gg
    exact ⟨xs, xs[i]'(by rw [l1.length]; omega), h1, by simp⟩
  stop := fun i H' ρ' S hi st s gg => by
    rw [enumD_len] at hi
    obtain ⟨xs, h1, l1⟩ := ha _ _ _ st s gg
    exact ⟨xs, h1, by rw [l1.length]; omega⟩
  yld := fun i H' ρ' S v H2 hi st s gg ⟨T, x, e1, e2, e3, e4⟩ => by
    rw [enumD_len] at hi
    obtain ⟨xs, h1, l1⟩ := ha _ _ _ st s gg
    subst e1; subst e3
    have hx := e4 xs h1
    obtain ⟨v1, q1, r1⟩ := l1.get (List.getElem?_eq_getElem hi)
    rw [hx] at q1; cases q1
    exact ⟨_, enumD_at (List.getElem?_eq_getElem hi), .tup (.of upd_same) (.cons (.int _) (.cons (r1.mono (stp_val e2)) .nil)), stp_val e2, s.val e2⟩
def dEnum (fs : DA) : DI := fun env S => (fs env S).bind fun xs S1 => match xs with
  | [x] => enumOf x S1
  | _ => .err
section
variable {X : Cx} {raw : List (Nat × V)} {W : WX} {pos p tpos : Pos} {e : Expr} {elts : List Expr} {kk : Nat} {fs : DA}
theorem ix_enumL (hg : Gl X "enumerate") (hm : X.mg "enumerate" = none) (ha : AX X raw W [e] fs) (hs : starEach [e] X.env = [(false, eval e X.env)] := by rfl) :
    IX X raw W (.Tuple elts kk tpos) (.Call (.Name "enumerate" p) [e] [] pos) (dEnum fs) :=
  PI.imp (pi_enum hg hm ha hs) fun σ H Q ⟨ρ, env, S, e, s, h⟩ => tG_bindI e s h fun d S1 v ρ1 H1 st e1 s1 r1 h1 => by
    split at h1
    · cases r1 with
      | cons ra t =>
        cases t
        unfold enumOf at h1
        split at h1
        · rename_i a g ea
          obtain ⟨x, rfl, qa, xs, ha, la⟩ := LsG.now s1 ra ea
          exact ⟨_, _, rfl, ha, h1 _ ρ1 H1 (Stp.refl _ _) s1 (wk_enum qa)⟩
        · exact h1.elim
    · exact h1.elim
end
end RL

namespace RL
open PySem PySem.Spec PyProof.Rows L2

/-! ### enumerate of a tuple -/
/-- enumerate(v) of whatever an iterator begins -/
theorem one_enum {v : Value} {ob : Obj} {Hs : Heap → Prop} (B : Begins v ob Hs) :
    Meets (Builtin.«enumerate.__new__» ⟨[.type "enumerate", v], []⟩) (fun _ R s => Hs s.heap ∧ R (.ok (.ret (.ref (s.heap.push ob).objs.size)))
        { s with heap := (s.heap.push ob).push { cls := .type "enumerate", data := .fields #[.none, .bool false, .ref s.heap.objs.size, rawInt 0, .none, .none] } }) :=
  .of_wp fun prog w A R s hyp => by
    obtain ⟨hp, gg, dd, tk, os⟩ := s
    obtain ⟨b1, fin⟩ := hyp
    have subE := sub_enumerate
    have begins : ∀ {A' : Around} {E' : Value → Shared → Prop} {Q' : Value → Shared → Prop}, Q' (.ref hp.objs.size) ⟨hp.push ob, gg, dd, tk, os⟩ → wpAny (model prog w) A' (pyIter v) Q' E' ⟨hp, gg, dd, tk, os⟩ := fun z => B.iter prog w _ _ ⟨hp, gg, dd, tk, os⟩ _ b1 z
    wp_walk using begins
    refine wpAny_stack_any fun stk => wpAny_pure ?_
    split
    · rename_i cc _ _ _ _ _
      cases (cc == Value.type "enumerate") <;> (wp_walk using begins; exact ⟨_, rfl, fin⟩)
    · wp_walk using begins
      exact ⟨_, rfl, fin⟩
theorem call_one_enum {prog : Program} {w : World} {A : Around} {E : Value → Shared → Prop} {s : Shared} {v : Value} {ob : Obj} {Hs : Heap → Prop} {Q : Value → Shared → Prop} (B : Begins v ob Hs) (b1 : Hs s.heap)
    (fin : ∀ h', IsEnum h' (s.heap.objs.size + 1) s.heap.objs.size 0 .none → h'.get? s.heap.objs.size = some ob → (∀ b o, s.heap.get? b = some o → h'.get? b = some o) → Q (.ref (s.heap.objs.size + 1)) { s with heap := h' }) :
    wpAny (model prog w) A (call (.type "enumerate") [v]) Q E s := by
  refine callType_new F.called_enumerate (by decide) (F.typeCall_enumerate_1 _) (F.newCall_enumerate_1 _) (fun obj => F.args_object_init_2 obj _) F.entry_enumerate_new (one_enum B) ⟨b1, ?_⟩
  have sz : (s.heap.push ob).objs.size = s.heap.objs.size + 1 := Heap.size_push ..
  show _ ∧ _
  rw [sz]
  have en : IsEnum ((s.heap.push ob).push { cls := .type "enumerate", data := .fields #[.none, .bool false, .ref s.heap.objs.size, rawInt 0, .none, .none] }) (s.heap.objs.size + 1) s.heap.objs.size 0 .none := by
    have z := Heap.get?_push_size (s.heap.push ob) (o := { cls := .type "enumerate", data := .fields #[.none, .bool false, .ref s.heap.objs.size, rawInt 0, .none, .none] }) rfl
    rw [sz] at z
    exact z
  exact ⟨⟨_, en, rfl⟩, fin _ en (Heap.get?_push_of_some _ (Heap.get?_push_size _ B.free)) fun b o x => Heap.get?_push_of_some _ (Heap.get?_push_of_some _ x)⟩
/-- the items xs of the tuple at a, each in a new pair -/
def IteT (K : Fg) (a : Addr) (xs : List V) : It :=
  ⟨fun i H => SqT K H a xs ∧ i < xs.length,
   fun i H v H' => ∃ T x, v = .ref T ∧ H T = none ∧ H' = upd H T (.tup [.int (i : Nat), x]) ∧ xs[i]? = some x,
   fun i H => SqT K H a xs ∧ xs.length ≤ i⟩
theorem turn_enumT {P : Program} {w : World} {K : Fg} {elts : List Expr} {kk : Nat} {tpos : Pos} (a e it : Addr) (xs : List V) :
    Turn P w K (.Tuple elts kk tpos) (IteT K a xs) [e, it] e (fun i h => (∃ old, IsEnum h e it ((i : Nat) : Int) old) ∧ h.IsTupleIter it a i ∧ i ≤ xs.length ∧ e ≠ it ∧ a ≠ it) where
  mem := by simp
  obj := fun i h st b hb => by
    obtain ⟨⟨old, en⟩, ⟨o, ho, hc, hd⟩, _⟩ := st
    have z : b = e ∨ b = it := by simpa using hb
    rcases z with rfl | rfl
    · exact ⟨_, en, fun v q => nomatch q⟩
    · exact ⟨o, ho, fun v q => by rw [hd] at q; cases q⟩
  keep := fun i h h' st k => by
    obtain ⟨⟨old, en⟩, hi, r⟩ := st
    exact ⟨⟨old, k e (by simp) _ en⟩, hi.at fun o q => k it (by simp) o q, r⟩
  item := by
    intro X hP hw hK hc i pins s σ H E I hf st hg
    subst hP hw hK
    obtain ⟨⟨old, en⟩, hit, hle, hne, hai⟩ := st
    obtain ⟨hq, hlt⟩ := hg
    obtain ⟨its, rv, tp, hz⟩ := I.tuple hq
    have lenE : its.toArray.size = xs.length := by rw [List.size_toArray, ← rv.length]
    have hel : e < s.heap.objs.size := Heap.lt_size en
    have hil : it < s.heap.objs.size := by obtain ⟨_, z, _⟩ := hit; exact Heap.lt_size z
    refine wpAny_pyNext_enum_itemD (Draws.tuple (A := X.A.in1) (I.ok.hd hc) it a hai its.toArray) en ⟨hit, tp⟩ (by rw [lenE]; exact hlt) hne ?_ fun u h' tk hu out st2 hT hsz hk => ?_
    · intro z
      have z' : e = it ∨ e = a := by simpa using z
      rcases z' with z' | z'
      · exact hne z'
      · subst z'
        obtain ⟨o, ho, hcl, _⟩ := tp
        rw [en] at ho; cases ho
        have hcl' : Value.type "enumerate" = Value.type "tuple" := hcl
        injection hcl' with hcl'
        exact absurd hcl' (by decide)
    refine ⟨_, rfl, wpAny_letOwnedTupleGo_enum (s := { s with heap := h', toks := tk + 1 }) out fun h'' he' sb => ?_⟩
    have hu' : its[i]? = some u := by simpa using hu
    obtain ⟨x, hx, ru⟩ : ∃ x, xs[i]? = some x ∧ RelV x u := by
      have hx : xs[i]? = some xs[i] := List.getElem?_eq_getElem hlt
      obtain ⟨u2, q2, r2⟩ := rv.get hx
      rw [hu'] at q2; cases q2
      exact ⟨_, hx, r2⟩
    have hT2 : h''.get? s.heap.objs.size = some { cls := .type "tuple", data := .seq #[.int i tk, u] } := (sb.2 _ (Nat.ne_of_gt hel)).trans hT
    have new : ObjOk X.prog X.w (upd H s.heap.objs.size (.tup [.int (i : Nat), x])) h'' s.heap.objs.size (.tup [.int (i : Nat), x]) :=
      ⟨by show 2 ≤ sizeLine; decide, [.int i tk, u], .cons ⟨_, rfl⟩ (.cons ru .nil), ⟨_, hT2, rfl, _, rfl⟩⟩
    have I1 : Inv X pins σ (upd H s.heap.objs.size (.tup [.int (i : Nat), x])) { s with heap := h'', toks := tk + 1 } :=
      I.turnedNew (t' := tk + 1) (ch := [e, it]) (fun b ob hb q => (sb.2 b (fun z => hb (by simp [z]))).trans (hk b ob (fun z => hb (by simp [z])) (fun z => hb (by simp [z])) q)) hf (Nat.le_refl _) new
    refine ⟨.ref s.heap.objs.size, _, I1, rfl, ⟨_, x, rfl, I.hok.fresh (Nat.le_refl _), rfl, hx⟩, ⟨⟨u, ?_⟩, st2.1.at fun o q => (sb.2 it (Ne.symm hne)).trans q, hlt, hne, hai⟩, fun b hb => ?_⟩
    · have e1 : ((i + 1 : Nat) : Int) = (i : Int) + 1 := by omega
      rw [e1]
      exact he'
    · have z : b = e ∨ b = it := by simpa using hb
      have hb' : b < s.heap.objs.size := by rcases z with rfl | rfl <;> assumption
      rw [upd_ne (Nat.ne_of_lt hb')]
      exact (hf b hb).1
  done := by
    intro X hP hw hK hc i pins s σ H E I hf st hg
    subst hP hw hK
    obtain ⟨⟨old, en⟩, hit, hle, hne, hai⟩ := st
    obtain ⟨hq, hge⟩ := hg
    obtain ⟨its, rv, tp, hz⟩ := I.tuple hq
    have lenE : its.toArray.size = i := by rw [List.size_toArray, ← rv.length]; omega
    obtain ⟨f0, f1, f2, f3, f4, f5⟩ := hf it (by simp)
    exact wpAny_pyNext_enum_endD (Draws.tuple (A := X.A.in1) (I.ok.hd hc) it a hai its.toArray) en ⟨by rw [lenE]; exact hit, tp⟩ fun h' eb => ⟨rfl, I.turned (t' := s.toks) (fun b o hb q => eb b o hb q) f0 f1 f3 f4 f5⟩
  self := fun A i s Q E st h => let ⟨⟨_, en⟩, _⟩ := st; wpAny_pyIter_enum en h
def iEnT (K : Fg) (ta : TA) : TI := fun σ H R => ta σ H fun vs H1 => ∃ a xs, vs = [.ref a] ∧ SqT K H1 a xs ∧ R (IteT K a xs) H1
theorem pi_enT {X : Cx} {e : Expr} {ta : TA} {p pos tpos : Pos} {elts : List Expr} {kk : Nat} (hg : Gl X "enumerate") (hm : X.mg "enumerate" = none) (ha : PA X [e] ta) (hs : starEach [e] X.env = [(false, eval e X.env)] := by rfl) :
    PI X (.Tuple elts kk tpos) (.Call (.Name "enumerate" p) [e] [] pos) (iEnT X.K ta) := by
  refine ⟨fun pins s σ H R I h => Call_ (ld_blt I hg hm boot_enumerate (PyProof.Rows.callWith_type1 (thn (ha.run pos pins s σ H _ I h) fun us s1 ⟨vs, H1, I1, r1, a, xs, ev, hq, q⟩ => ?_) hs rfl))⟩
  subst ev
  cases r1 with
  | cons r rr =>
    cases rr
    cases r
    obtain ⟨its, rv, tp, hz⟩ := I1.tuple hq
    refine call_one_enum (begins_tuple a its.toArray) tp fun h' en hit hk => wpAny_pyIter_enum en ?_
    have I2 : Inv X pins σ H1 { s1 with heap := h' } := I1.kept (t' := s1.toks) hk
    have hal : a < s1.heap.objs.size := by obtain ⟨o, ho, _⟩ := tp; exact Heap.lt_size ho
    refine ⟨s1.heap.objs.size + 1, [s1.heap.objs.size + 1, s1.heap.objs.size], _, _, H1, rfl, I2, turn_enumT a (s1.heap.objs.size + 1) s1.heap.objs.size xs, ⟨⟨.none, en⟩, ⟨_, hit, rfl, rfl⟩, Nat.zero_le _, Nat.succ_ne_self _, Nat.ne_of_lt hal⟩, fun b hb => ?_, q⟩
    have z : b = s1.heap.objs.size + 1 ∨ b = s1.heap.objs.size := by simpa using hb
    have le : s1.heap.objs.size ≤ b := by rcases z with rfl | rfl <;> omega
    exact I1.fpOk le (I1.hok.fresh le)
theorem wk_enumT {K : Fg} {mg : Mg} {ρ : List Addr} {H : Hp} {a : Addr} {xs : List V} {ds : List D} (ha : SqT K H a xs) (la : RepL K ρ H xs ds) : Wk K mg (IteT K a xs) ρ H ⟨enumD ds, []⟩ where
  go := fun i H' ρ' S hi st s g => by
    rw [enumD_len] at hi
    exact ⟨st.sqT ha, by rw [la.length]; exact hi⟩
  stop := fun i H' ρ' S hi st s g => by
    rw [enumD_len] at hi
    exact ⟨st.sqT ha, by rw [la.length]; exact hi⟩
  yld := fun i H' ρ' S v H2 hi st s g ⟨T, x, e1, e2, e3, e4⟩ => by
    rw [enumD_len] at hi
    subst e1; subst e3
    obtain ⟨v1, q1, r1⟩ := la.get (List.getElem?_eq_getElem hi)
    rw [e4] at q1; cases q1
    exact ⟨_, enumD_at (List.getElem?_eq_getElem hi), .tup (.of upd_same) (.cons (.int _) (.cons ((r1.mono st).mono (stp_val e2)) .nil)), stp_val e2, s.val e2⟩
/-- enumerate of a list or a tuple -/
def enumAny (xs : List D) (S : Sto) : R ItD := match xs with
  | [.tup ds] => .ok ⟨enumD ds, []⟩ S
  | [x] => enumOf x S
  | _ => .err
def dEnumA (fs : DA) : DI := fun env S => (fs env S).bind enumAny
section
variable {X : Cx} {raw : List (Nat × V)} {W : WX} {pos p tpos : Pos} {e : Expr} {elts : List Expr} {kk : Nat} {fs : DA}
theorem ix_enum (hg : Gl X "enumerate") (hm : X.mg "enumerate" = none) (ha : AX X raw W [e] fs) (hs : starEach [e] X.env = [(false, eval e X.env)] := by rfl) :
    IX X raw W (.Tuple elts kk tpos) (.Call (.Name "enumerate" p) [e] [] pos) (dEnumA fs) := ⟨fun pins s σ H R I ⟨ρ, env, S, er, sr, h⟩ => by
  have hL := (ix_enumL (tpos := tpos) (elts := elts) (kk := kk) (p := p) (pos := pos) hg hm ha hs).run pins s σ H R I
  unfold dEnumA at h
  cases q : fs env S with
  | err => rw [q] at h; exact h.elim
  | exc c S1 => exact hL ⟨ρ, env, S, er, sr, by unfold dEnum; rw [q] at h ⊢; exact h⟩
  | ok ds S1 =>
    rw [q] at h
    simp only [RL.R.bind_ok] at h
    unfold enumAny at h
    split at h
    · rename_i es
      refine (pi_enT (tpos := tpos) (elts := elts) (kk := kk) (p := p) (pos := pos) hg hm ha hs).run pins s σ H R I ⟨ρ, env, S, er, sr, ?_⟩
      rw [q]
      intro vs ρ' H' st sr' rl
      cases rl with
      | cons ra t =>
        cases t
        cases ra with
        | tup hq l => exact ⟨_, _, rfl, hq, h _ ρ' H' st sr' (wk_enumT hq l)⟩
    · rename_i x hx
      exact hL ⟨ρ, env, S, er, sr, by unfold dEnum; rw [q]; exact h⟩
    · exact h.elim⟩
end
end RL

namespace RL
open PySem PySem.Spec PyProof.Rows L2

/-! ### x[::-1], x a list -/
def gRev : G1 := fun x S => match itemsL x S with
  | some ds => .ok (.ref S.length) (S ++ [.lst ds.reverse])
  | none => .err
theorem RepL.snoc {K : Fg} {ρ : List Addr} {H : Hp} {v : V} {d : D} (r : Rep K ρ H v d) {vs : List V} {ds : List D} (l : RepL K ρ H vs ds) : RepL K ρ H (vs ++ [v]) (ds ++ [d]) := l.append (.cons r .nil)
theorem RepL.rev {K : Fg} {ρ : List Addr} {H : Hp} : ∀ {vs : List V} {ds : List D}, RepL K ρ H vs ds → RepL K ρ H vs.reverse ds.reverse
  | _, _, .nil => .nil
  | _, _, .cons r t => by
    rw [List.reverse_cons, List.reverse_cons]
    exact RepL.snoc r (RepL.rev t)
section
variable {X : Cx} {raw : List (Nat × V)} {W : WX} {pos p p1 p2 p3 : Pos} {e tg : Expr} {f : DE} {k : Nat}
theorem ex_rev (he : EX X raw W e f) : EX X raw W (.Subscript e (.Slice none none (some (.UnaryOp .USub (.Constant (.int 1) k p1) p2)) p3) pos) (dUn gRev f) :=
  PE.imp (pe_revL he) fun σ H Q ⟨ρ, env, S, e, s, h⟩ => tG_bind e s h fun d S1 v ρ1 H1 st e1 s1 r1 h1 => by
    unfold gRev at h1
    split at h1
    · rename_i ds eds
      obtain ⟨a, xs, rfl, hq, l⟩ := itemsL_is s1 r1 eds
      exact ⟨a, xs, rfl, hq, fun q hq' => post_lst h1 s1 l.rev q hq'⟩
    · exact h1.elim
/-- for .. in reversed(x), x a list -/
def revOf (x : D) (S : Sto) : R ItD := match lstG x S with
  | some (ds, g) => .ok ⟨ds.reverse, g⟩ S
  | none => .err
theorem wk_rev {K : Fg} {mg : Mg} {ρ : List Addr} {H : Hp} {a : Addr} {ds : List D} {n : Nat} {g : List (Nat × O)} (ha : LsG K mg ρ H a ds g) (hn : n = ds.length) : Wk K mg (Itv K a n) ρ H ⟨ds.reverse, g⟩ where
  go := fun i H' ρ' S hi st s gg => by
    rw [List.length_reverse] at hi
    obtain ⟨xs, h1, l1⟩ := ha _ _ _ st s gg
    exact ⟨by omega, xs, xs[n - 1 - i]'(by rw [l1.length]; omega), h1, List.getElem?_eq_getElem _⟩
  stop := fun i H' ρ' S hi st s gg => by
    rw [List.length_reverse] at hi
    show n ≤ i
    omega
  yld := fun i H' ρ' S v H2 hi st s gg ⟨e1, e2⟩ => by
    rw [List.length_reverse] at hi
    subst e1
    obtain ⟨xs, h1, l1⟩ := ha _ _ _ st s gg
    have hx := e2 xs h1
    have hj : n - 1 - i < ds.length := by omega
    obtain ⟨v1, q1, r1⟩ := l1.get (List.getElem?_eq_getElem hj)
    rw [hx] at q1; cases q1
    refine ⟨_, ?_, r1, Stp.refl _ _, s⟩
    rw [List.getElem?_reverse (by omega)]
    rw [show ds.length - 1 - i = n - 1 - i by omega]
    exact List.getElem?_eq_getElem hj
def dItR (f : DE) : DI := fun env S => (f env S).bind revOf
theorem ix_rev (hg : Gl X "reversed") (hm : X.mg "reversed" = none) (he : EX X raw W e f) (hs : starEach [e] X.env = (false, eval e X.env) :: starEach [] X.env := by rfl) :
    IX X raw W tg (.Call (.Name "reversed" p) [e] [] pos) (dItR f) :=
  PI.imp (RT.pi_revA hg hm he hs) fun σ H Q ⟨ρ, env, S, er, s, h⟩ => tG_bindI er s h fun d S1 v ρ1 H1 st e1 s1 r1 h1 => by
    unfold revOf at h1
    split at h1
    · rename_i ds g ea
      obtain ⟨a, rfl, qa, xs, hx, lx⟩ := LsG.now s1 r1 ea
      exact ⟨a, xs, rfl, .inl ⟨hx, h1 _ ρ1 H1 (Stp.refl _ _) s1 (by rw [lx.length]; exact wk_rev qa rfl)⟩⟩
    · exact h1.elim
end

/-! ### d.setdefault(k, z) -/
def dSetd (fo fk fz : DE) : DE := fun env S => (fo env S).bind fun x S1 => match x with
  | .ref n => match S1[n]? with
    | some (.dict _) => (fk env S1).bind fun k S2 => (fz env S2).bind fun z S3 => match S3[n]? with
      | some (.dict kvs) => if isKey k = true ∧ kvs.length < lim then (match findK kvs k with
        | some d => .ok d S3
        | none => .ok z (S3.set n (.dict (putD kvs k z)))) else .err
      | _ => .err
    | _ => .err
  | _ => .err
section
variable {X : Cx} {raw : List (Nat × V)} {W : WX} {apos cpos : Pos} {o e f : Expr} {fo fk fz : DE}
theorem ex_setd (ho : EX X raw W o fo) (he : EX X raw W e fk) (hf : EX X raw W f fz) (m : M2 X o "setdefault" apos e f cpos) : EX X raw W (.Call (.Attribute o "setdefault" apos) [e, f] [] cpos) (dSetd fo fk fz) :=
  PE.imp (pe_dsetd ho he hf m) fun σ H Q ⟨ρ, env, S, er, s, h⟩ => tG_bind er s h fun d S1 v ρ1 H1 st e1 s1 r1 h1 => by
    split at h1
    · rename_i n
      cases r1 with
      | ref hn =>
        rename_i a
        split at h1
        · rename_i kvs0 hS
          obtain ⟨ks0, hx0, l0⟩ := s1.ob _ _ _ hS hn
          refine ⟨a, rfl, .inl ⟨ks0, .of hx0⟩, ?_⟩
          refine tG_bind e1 s1 h1 fun k S2 y ρ2 H2 st2 e2 s2 r2 h2 => ?_
          refine tG_bind e2 s2 h2 fun z S3 zv ρ3 H3 st3 e3 s3 r3 h3 => ?_
          have hn3 := st3.at (st2.at hn)
          split at h3
          · rename_i kvs hS3
            obtain ⟨ks, hx, l⟩ := s3.ob _ _ _ hS3 hn3
            split at h3
            · rename_i hk
              obtain ⟨kk, rfl, rfl⟩ := key_of_rep (r2.mono st3) hk.1
              refine ⟨ks, kk, hx, rfl, by rw [lim_eq, l.length]; exact hk.2, fun vv hv => ?_, fun hv => ?_⟩
              · rcases l.find (k := kk) with ⟨w1, w2⟩ | ⟨v', d', w1, w2, r⟩
                · rw [w1] at hv; cases hv
                · rw [w1] at hv; cases hv
                  rw [w2] at h3
                  exact post_val h3 s3 r
              · rcases l.find (k := kk) with ⟨w1, w2⟩ | ⟨v', d', w1, w2, r⟩
                · rw [w2] at h3
                  exact post_set h3 s3 hn3 ⟨_, upd_same, (l.put r3).mono (wr s3 hn3)⟩ (r3.mono (wr s3 hn3))
                · rw [w1] at hv; cases hv
            · exact h3.elim
          · exact h3.elim
        · exact h1.elim
    · exact h1.elim
end
end RL

namespace RL
open PySem PySem.Spec PyProof.Rows L2
/-! ### for over a dict: it is locked while the loop runs -/
section
variable {X : Cx} {raw : List (Nat × V)} {W : WX} {pos : Pos}
/-- a walk through it.items, as the reading of a for wishes it -/
theorem for_core {t : DG} {f : DS} {it : ItD} {J : It} {ρ1 : List Addr} {H1 : Hp} {env : Env} {S1 : Sto} {σ : L2.St} {D : Ends} (wk : Wk X.K X.mg J ρ1 H1 it) (e : ER X.K raw ρ1 H1 env σ) (s1 : SR X.K X.mg ρ1 H1 S1)
    (h1 : PostS X.K X.mg raw W ρ1 H1 (forL it.guard t f it.items env S1) D) :
    ∃ Wm : Nat → Nat → L2.St → Hp → Prop, (∃ m, Wm 0 m σ H1) ∧ ∀ (i m : Nat) (σ : L2.St) (H : Hp), Wm i m σ H → (J.stop i H ∧ D.nx σ H) ∨ (J.go i H ∧ ∃ N : L2.St → Hp → Prop, (∀ σ' H', N σ' H' → ∃ m', m' < m ∧ Wm (i + 1) m' σ' H') ∧
      ∀ v H', J.yld i H v H' → tGt X.K X.mg raw t v σ H' fun σ2 H2 => tS X.K X.mg raw W f { D with nx := N, ct := N, bk := D.nx } σ2 H2) := by
  refine ⟨fun i m σ H => m = it.items.length - i ∧ i ≤ it.items.length ∧ ∃ ρ env S, ER X.K raw ρ H env σ ∧ SR X.K X.mg ρ H S ∧ Stp ρ1 H1 ρ H ∧ PostS X.K X.mg raw W ρ H (forL it.guard t f (it.items.drop i) env S) D,
    ⟨_, rfl, Nat.zero_le _, ρ1, env, S1, e, s1, Stp.refl _ _, by simpa using h1⟩, ?_⟩
  rintro i m σ2 H2 ⟨rfl, hi, ρ2, env2, S2, e2, s2, st2, h2⟩
  by_cases hlt : i < it.items.length
  · rw [List.drop_eq_getElem_cons hlt] at h2
    unfold forL at h2
    by_cases hg : Grd it.guard S2
    · rw [if_pos hg] at h2
      refine .inr ⟨wk.go i H2 ρ2 S2 hlt st2 s2 hg, fun σ' H' => ∃ ρ env S, ER X.K raw ρ H' env σ' ∧ SR X.K X.mg ρ H' S ∧ Stp ρ1 H1 ρ H' ∧ PostS X.K X.mg raw W ρ H' (forL it.guard t f (it.items.drop (i + 1)) env S) D,
        fun σ' H' w => ⟨it.items.length - (i + 1), by omega, rfl, hlt, w⟩, fun x H' y => ?_⟩
      obtain ⟨d, ed, r3, st3, s3⟩ := wk.yld i H2 ρ2 S2 x H' hlt st2 s2 hg y
      have ed' : it.items[i] = d := by rw [List.getElem?_eq_getElem hlt] at ed; exact Option.some.inj ed
      rw [ed'] at h2
      refine ⟨ρ2, env2, S2, d, e2.mono st3, s3, r3, ?_⟩
      cases q2 : t d env2 S2 with
      | ok e4 S4 =>
        rw [q2] at h2
        intro σ4 ρ4 H4 st4 s4 er4
        have st14 := (st2.trans st3).trans st4
        refine ⟨ρ4, e4, S4, er4, s4, ?_⟩
        have h4 := PostS.later (PostS.later h2 st3) st4
        dsimp only at h4
        cases q3 : f e4 S4 with
        | nx e5 S5 => rw [q3] at h4; exact fun σ' ρ' H' st sr er => ⟨ρ', e5, S5, er, sr, st14.trans st, PostS.later h4 st⟩
        | ct e5 S5 => rw [q3] at h4; exact fun σ' ρ' H' st sr er => ⟨ρ', e5, S5, er, sr, st14.trans st, PostS.later h4 st⟩
        | bk e5 S5 => rw [q3] at h4; exact h4
        | rt d S5 => rw [q3] at h4; exact h4
        | exc c e5 S5 => rw [q3] at h4; exact h4
        | err => rw [q3] at h4; exact h4
      | exc c S4 => rw [q2] at h2; exact h2.elim
      | err => rw [q2] at h2; exact h2.elim
    · rw [if_neg hg] at h2; exact h2.elim
  · have hd : it.items.drop i = [] := List.drop_eq_nil_of_le (Nat.le_of_not_lt hlt)
    rw [hd] at h2
    unfold forL at h2
    by_cases hg : Grd it.guard S2
    · rw [if_pos hg] at h2
      exact .inl ⟨wk.stop i H2 ρ2 S2 (Nat.le_of_not_lt hlt) st2 s2 hg, h2 σ2 ρ2 H2 (Stp.refl _ _) s2 e2⟩
    · rw [if_neg hg] at h2; exact h2.elim

end
/-! a frozen dict is let go: all else stands as it was -/
mutual
theorem Rep.tr {K : Fg} {ρ : List Addr} {H H1 : Hp} {a : Addr} {ob : Obj} {ks : List (Key × V)} (ha : H a = some (.frz ob (.dK ks))) (he : ∀ b, b ≠ a → H1 b = H b) : ∀ {d : D} {v : V}, Rep K ρ H v d → Rep K ρ H1 v d
  | .non, _, .non => .non
  | .bl _, _, .bl b => .bl b
  | .int _, _, .int b => .int b
  | .str _, _, .str b => .str b
  | .tup _, _, .tup (a := b) h l => .tup (by
      rcases h with (h | ⟨o, h⟩) | h
      · exact .inl (.inl (by rw [he b (fun z => by rw [z, ha] at h; cases h)]; exact h))
      · exact .inl (.inr ⟨o, by rw [he b (fun z => by rw [z, ha] at h; cases h)]; exact h⟩)
      · exact .inr h) (RepL.tr ha he l)
  | .scr _, _, .scr (a := b) h l => .scr (by
      rcases h with ⟨o, h⟩ | h
      · exact .inl ⟨o, by rw [he b (fun z => by rw [z, ha] at h; cases h)]; exact h⟩
      · exact .inr h) (RepL.tr ha he l)
  | .ref _, _, .ref h => .ref h
theorem RepL.tr {K : Fg} {ρ : List Addr} {H H1 : Hp} {a : Addr} {ob : Obj} {ks : List (Key × V)} (ha : H a = some (.frz ob (.dK ks))) (he : ∀ b, b ≠ a → H1 b = H b) : ∀ {ds : List D} {vs : List V}, RepL K ρ H vs ds → RepL K ρ H1 vs ds
  | [], _, .nil => .nil
  | _ :: _, _, .cons h l => .cons (Rep.tr ha he h) (RepL.tr ha he l)
end
theorem RepKV.tr {K : Fg} {ρ : List Addr} {H H1 : Hp} {a : Addr} {ob : Obj} {ks : List (Key × V)} (ha : H a = some (.frz ob (.dK ks))) (he : ∀ b, b ≠ a → H1 b = H b) : ∀ {kvs : List (D × D)} {ls : List (Key × V)}, RepKV K ρ H ls kvs → RepKV K ρ H1 ls kvs
  | _, _, .nil => .nil
  | _, _, .cons r t => .cons (r.tr ha he) (RepKV.tr ha he t)
theorem SR.unlock {K : Fg} {mg : Mg} {ρ : List Addr} {H : Hp} {S : Sto} {n : Nat} {a : Addr} {ob : Obj} {ks : List (Key × V)} {kvs : List (D × D)} (s : SR K mg ρ H S) (hn : ρ[n]? = some a) (ha : H a = some (.frz ob (.dK ks))) (r : RepKV K ρ H ks kvs) :
    SR K mg ρ (upd H a (.dK ks)) (S.set n (.dict kvs)) where
  len := by simp [s.len]
  nd := s.nd
  ob := fun m u b h1 h2 => by
    have he : ∀ b, b ≠ a → upd H a (.dK ks) b = H b := fun b hb => upd_ne hb
    by_cases e : m = n
    · subst e
      rw [hn] at h2; cases h2
      obtain ⟨q, _⟩ := List.getElem?_eq_some_iff.mp h1
      rw [List.getElem?_set_self (by simpa using q)] at h1
      cases h1
      exact ⟨ks, upd_same, r.tr ha he⟩
    · rw [List.getElem?_set_ne (Ne.symm e)] at h1
      have ne : b ≠ a := fun z => by
        subst z
        obtain ⟨q1, e1⟩ := List.getElem?_eq_some_iff.mp hn
        obtain ⟨q2, e2⟩ := List.getElem?_eq_some_iff.mp h2
        exact e ((List.getElem_inj s.nd).mp (e2.trans e1.symm))
      have q := s.ob m u b h1 h2
      cases u with
      | lst ds => obtain ⟨xs, e, l⟩ := q; exact ⟨xs, (he b ne).trans e, l.tr ha he⟩
      | dict ds => obtain ⟨xs, e, l⟩ := q; exact ⟨xs, (he b ne).trans e, l.tr ha he⟩
      | ins c fs => obtain ⟨C, dx, gs, g, q, n, l⟩ := q; exact ⟨C, dx, gs, g, (he b ne).trans q, n, l.tr ha he⟩
      | fd ds => obtain ⟨xs, o, e, l⟩ := q; exact ⟨xs, o, (he b ne).trans e, l.tr ha he⟩
theorem ER.tr {K : Fg} {raw : List (Nat × V)} {ρ : List Addr} {H H1 : Hp} {env : Env} {σ : L2.St} {a : Addr} {ob : Obj} {ks : List (Key × V)} (e : ER K raw ρ H env σ) (ha : H a = some (.frz ob (.dK ks))) (he : ∀ b, b ≠ a → H1 b = H b) : ER K raw ρ H1 env σ :=
  ⟨e.len, fun i d h => let ⟨v, q, r⟩ := e.at_ i d h; ⟨v, q, r.tr ha he⟩, e.raw⟩
theorem stp_unlock {ρ ρ' : List Addr} {H H' : Hp} {a : Addr} {od : Obj} {ks : List (Key × V)} (ha : a ∈ ρ) (e : H a = some (.dK ks)) (st : Stp ρ (upd H a (.frz od (.dK ks))) ρ' H') : Stp ρ H ρ' (upd H' a (.dK ks)) where
  ext := st.ext
  new := fun b hb => by
    rcases st.new b hb with h | h
    · exact .inl h
    · by_cases z : b = a
      · exact .inl (z ▸ ha)
      · rw [upd_ne z] at h; exact .inr h
  old := fun b o hb h => by
    have z : b ≠ a := fun z => hb (z ▸ ha)
    rw [upd_ne z]; exact st.old b o hb (by rw [upd_ne z]; exact h)
  frz := fun b o u h => by
    have z : b ≠ a := fun z => by rw [z, e] at h; cases h
    rw [upd_ne z]; exact st.frz b o u (by rw [upd_ne z]; exact h)
  tup := fun b xs h => by
    have z : b ≠ a := fun z => by rw [z, e] at h; cases h
    rw [upd_ne z]; exact st.tup b xs (by rw [upd_ne z]; exact h)
/-- what is told behind the loop -/
def unlockF (n : Nat) (kvs : List (D × D)) : Fl → Fl
  | .nx e S => if S[n]? = some (.fd kvs) then .nx e (S.set n (.dict kvs)) else .err
  | .bk e S => if S[n]? = some (.fd kvs) then .bk e (S.set n (.dict kvs)) else .err
  | .ct e S => if S[n]? = some (.fd kvs) then .ct e (S.set n (.dict kvs)) else .err
  | .rt d S => if S[n]? = some (.fd kvs) then .rt d (S.set n (.dict kvs)) else .err
  | _ => .err
def dForD (i : Nat) (t : DG) (b : DS) : DS := fun env S => match env[i]? with
  | some (some (.ref n)) => match S[n]? with
    | some (.dict kvs) => unlockF n kvs (forL [(n, .fd kvs)] t b (kvs.map (·.1)) env (S.set n (.fd kvs)))
    | _ => .err
  | _ => .err
theorem wk_keys {K : Fg} {mg : Mg} {ρ : List Addr} {H : Hp} {a : Addr} {n : Nat} {od : Obj} {ks : List (Key × V)} {kvs : List (D × D)} (hn : ρ[n]? = some a) (ha : H a = some (.frz od (.dK ks))) (r : RepKV K ρ H ks kvs) : Wk K mg (Itk a od ks) ρ H ⟨kvs.map (·.1), [(n, .fd kvs)]⟩ where
  go := fun i H' ρ' S hi st s g => ⟨st.frz _ _ _ ha, by rw [List.length_map] at hi; rw [r.length]; exact hi⟩
  stop := fun i H' ρ' S hi st s g => ⟨st.frz _ _ _ ha, by rw [List.length_map] at hi; rw [r.length]; exact hi⟩
  yld := fun i H' ρ' S x H2 hi st s g ⟨e, k, v, q, ex⟩ => by
    subst e
    have kr : ∀ {ks : List (Key × V)} {kvs : List (D × D)}, RepKV K ρ H ks kvs → ∀ {i : Nat} {k : Key} {v : V}, ks[i]? = some (k, v) → ∃ d, (kvs.map (·.1))[i]? = some d ∧ Rep K ρ' H2 (kV k) d := by
      intro ks kvs r
      induction r with
      | nil => intro i k v h; simp at h
      | @cons k0 v0 d0 ks kvs rr t ih =>
        intro i k v h
        cases i with
        | zero => simp at h; obtain ⟨rfl, rfl⟩ := h; exact ⟨_, rfl, match k0 with | .inl i => .int i | .inr x => .str x⟩
        | succ i => simpa using ih (by simpa using h)
    obtain ⟨d, h1, h2⟩ := kr r q
    exact ⟨d, h1, by rw [ex]; exact h2, Stp.refl _ _, s⟩
section
variable {X : Cx} {raw : List (Nat × V)} {W : WX} {pos np : Pos}
theorem sx_forD {tg : Expr} {x : Str} {i : Nat} {body : List Stmt} {t : DG} {f : DS} (hp : PassesOwn (model X.prog X.w) X.A X.env X.xe) (hc : X.calm = true) (hN : X.N[i]? = some x) (hv : Vis X.env.scope x) (hg : GX X raw tg t) (hb : BX X raw (fun _ _ _ _ => False) body f)
    (hd : (x == ("__debug__" : Str)) = false := by decide) (hcd : (x == ("__classdict__" : Str)) = false := by decide)
    (hs : ∀ u, foldedSetIterable (.Name x np) X.env u = pure u := by intro _; rfl) : SX X raw W (.For tg (.Name x np) body [] pos) (dForD i t f) :=
  PS.imp (ps_lock (ps_for hp hc (pi_keys (pe_var hN hv hd hcd)) hg hb hs)) fun σ H Dn ⟨ρ, env, S, e, s, h⟩ => by
    unfold dForD at h
    split at h
    · rename_i n hi
      split at h
      · rename_i kvs hS
        obtain ⟨v, hσ, rv⟩ := e.at_ i _ hi
        cases rv with
        | @ref n a hn =>
          obtain ⟨ks, ha, r⟩ := s.ob _ _ _ hS hn
          have hmem : a ∈ ρ := List.mem_of_getElem? hn
          refine ⟨a, .dK ks, ha, trivial, fun od => ?_⟩
          have st0 : Stp ρ H ρ (upd H a (.frz od (.dK ks))) := stp_write hmem ⟨_, ha, trivial⟩
          have s0 := s.write (ho := .frz od (.dK ks)) (o' := .fd kvs) hn ⟨_, ha, trivial⟩ ⟨ks, od, upd_same, r.mono st0⟩
          refine ⟨.ref a, hσ, a, od, rfl, .inl ⟨ks, upd_same, ?_⟩⟩
          refine for_core (W := fun _ _ _ _ => False) (wk_keys hn upd_same (r.mono st0)) (e.mono st0) s0 ?_
          -- what is told behind the loop, seen from the locked heap
          have back : ∀ {ρ' : List Addr} {H' : Hp} {S' : Sto}, Stp ρ (upd H a (.frz od (.dK ks))) ρ' H' → SR X.K X.mg ρ' H' S' → S'[n]? = some (.fd kvs) → H' a = some (.frz od (.dK ks)) ∧ Stp ρ H ρ' (upd H' a (.dK ks)) ∧ SR X.K X.mg ρ' (upd H' a (.dK ks)) (S'.set n (.dict kvs)) := fun st sr hS' => by
            have hn' := st.at hn
            obtain ⟨ks', ob', e', r'⟩ := sr.ob _ _ _ hS' hn'
            have ef := st.frz a od (.dK ks) upd_same
            rw [ef] at e'
            cases e'
            exact ⟨ef, stp_unlock hmem ha st, sr.unlock hn' ef r'⟩
          cases q : forL [(n, .fd kvs)] t f (kvs.map (·.1)) env (S.set n (.fd kvs)) with
          | nx e2 S2 =>
            rw [q] at h
            dsimp only [unlockF] at h
            split at h
            · rename_i hS2
              intro σ' ρ' H' st sr er
              obtain ⟨b1, b2, b3⟩ := back st sr hS2
              exact ⟨b1, h σ' ρ' _ b2 b3 (er.tr b1 fun b hb => upd_ne hb)⟩
            · exact h.elim
          | bk e2 S2 =>
            rw [q] at h
            dsimp only [unlockF] at h
            split at h
            · rename_i hS2
              intro σ' ρ' H' st sr er
              obtain ⟨b1, b2, b3⟩ := back st sr hS2
              exact ⟨b1, h σ' ρ' _ b2 b3 (er.tr b1 fun b hb => upd_ne hb)⟩
            · exact h.elim
          | ct e2 S2 =>
            rw [q] at h
            dsimp only [unlockF] at h
            split at h
            · rename_i hS2
              intro σ' ρ' H' st sr er
              obtain ⟨b1, b2, b3⟩ := back st sr hS2
              exact ⟨b1, h σ' ρ' _ b2 b3 (er.tr b1 fun b hb => upd_ne hb)⟩
            · exact h.elim
          | rt d S2 =>
            rw [q] at h
            dsimp only [unlockF] at h
            split at h
            · rename_i hS2
              intro v ρ' H' st sr rr
              obtain ⟨b1, b2, b3⟩ := back st sr hS2
              exact ⟨b1, h v ρ' _ b2 b3 (rr.tr b1 fun b hb => upd_ne hb)⟩
            · exact h.elim
          | exc c e2 S2 => rw [q] at h; exact h.elim
          | err => rw [q] at h; exact h.elim
      · exact h.elim
    · exact h.elim
end
/-- for .. in a name: over a dict or not, as it stands -/
def dForN (i : Nat) (t : DG) (b : DS) : DS := fun env S => match env[i]? with
  | some (some (.ref n)) => (match S[n]? with
    | some (.dict _) => dForD i t b env S
    | _ => dFor (dItA (dV i)) t b env S)
  | _ => dFor (dItA (dV i)) t b env S
section
variable {X : Cx} {raw : List (Nat × V)} {W : WX} {pos np : Pos}
theorem bx_noex {body : List Stmt} {f : DS} (hb : BX X raw W body f) : BX X raw (fun _ _ _ _ => False) body f :=
  PSs.imp hb fun σ H D ⟨ρ, env, S, e, s, h⟩ => ⟨ρ, env, S, e, s, by
    cases q : f env S with
    | exc c e1 S1 => rw [q] at h; exact fun C σ' ρ' H' g st sr er => (h C σ' ρ' H' g st sr er).elim
    | nx e1 S1 => rw [q] at h; exact h
    | rt e1 S1 => rw [q] at h; exact h
    | bk e1 S1 => rw [q] at h; exact h
    | ct e1 S1 => rw [q] at h; exact h
    | err => rw [q] at h; exact h⟩
theorem sx_forN {tg : Expr} {x : Str} (i : Nat) {body : List Stmt} {t : DG} {f : DS} (hp : PassesOwn (model X.prog X.w) X.A X.env X.xe) (hc : X.calm = true) (hg : GX X raw tg t) (hb : BX X raw W body f) (hN : X.N[i]? = some x := by rfl) (hv : Vis X.env.scope x := by first | exact Or.inl rfl | exact Or.inr (Or.inl rfl) | exact Or.inr (Or.inr rfl))
    (hd : (x == ("__debug__" : Str)) = false := by decide) (hcd : (x == ("__classdict__" : Str)) = false := by decide)
    (hs : ∀ u, foldedSetIterable (.Name x np) X.env u = pure u := by intro _; rfl) : SX X raw W (.For tg (.Name x np) body [] pos) (dForN i t f) := ⟨fun pins s σ H D I ⟨ρ, env, S, e, sr, h⟩ => by
  have hF := (sx_for (pos := pos) hp hc (it_any (ex_v (pos := np) i hN hv hd hcd)) hg hb hs).run pins s σ H D I
  have hD := (sx_forD (pos := pos) (np := np) (W := W) hp hc hN hv hg (bx_noex hb) hd hcd hs).run pins s σ H D I
  unfold dForN at h
  split at h
  · split at h
    · exact hD ⟨ρ, env, S, e, sr, h⟩
    · exact hF ⟨ρ, env, S, e, sr, h⟩
  · exact hF ⟨ρ, env, S, e, sr, h⟩⟩
end
end RL

namespace RL
open PySem PySem.Spec PyProof.Rows L2
/-! ### a, b, .. = x, x a tuple or a list -/
def sTupA (n : Nat) (t : DGs) : DG := fun d env S => match d with
  | .tup ds => if ds.length = n then t ds env S else .err
  | .scr ds => if ds.length = n then t ds env S else .err
  | .ref k => match S[k]? with
    | some (.lst ds) => if ds.length = n then t ds env S else .err
    | _ => .err
  | _ => .err
section
variable {X : Cx} {raw : List (Nat × V)} {pos : Pos}
theorem gx_tupA {es : List Expr} {k : Nat} {g : DGs} {n : Nat} (hc : X.calm = true) (h : GsX X raw es g)
    (hn : (assignEach es X.env).length = n := by rfl) (hst : (assignEach es X.env).findIdx? (·.1) = none := by rfl) : GX X raw (.Tuple es k pos) (sTupA n g) := ⟨fun pins s σ H v u Q I r ⟨ρ, env, S, d, e, sr, rv, hh⟩ => by
  have hT := (gx_tup (pos := pos) (k := k) hc h hn hst).run pins s σ H v u Q I r
  have hL := (pg_lst (pos := pos) (k := k) hc h hn hst).run pins s σ H v u Q I r
  unfold sTupA at hh
  split at hh
  · exact hT ⟨ρ, env, S, _, e, sr, rv, hh⟩
  · rename_i ds
    split at hh
    · rename_i hl
      cases rv with
      | scr hq l => exact hL ⟨_, _, rfl, hq.sq, by rw [l.length]; exact hl, ρ, env, S, ds, e, sr, l, hh⟩
    · exact hh.elim
  · split at hh
    · rename_i ds hS
      split at hh
      · rename_i hl
        cases rv with
        | ref ha =>
          obtain ⟨xs, hx, l⟩ := sr.ob _ _ _ hS ha
          exact hL ⟨_, _, rfl, .of hx, by rw [l.length]; exact hl, ρ, env, S, ds, e, sr, l, hh⟩
      · exact hh.elim
    · exact hh.elim
  · exact hh.elim⟩
end
end RL

namespace RL
open PySem PySem.Spec PyProof.Rows L2
/-! ### for .. in reversed(range(..)) -/
def revRg (x y : D) (S : Sto) : R ItD := match x, y with
  | .int i, .int j => if -(2 ^ 62) ≤ i ∧ i < 2 ^ 62 ∧ -(2 ^ 62) ≤ j ∧ j < 2 ^ 62 then .ok ⟨rangeC (i + (((j - i).toNat : Nat) : Int) - 1) (-1) (j - i).toNat, []⟩ S else .err
  | _, _ => .err
def dRevR2 (fa fb : DE) : DI := fun env S => (fa env S).bind fun x S1 => (fb env S1).bind fun y S2 => revRg x y S2
def revRg1 (x : D) (S : Sto) : R ItD := match x with
  | .int j => if -(2 ^ 62) ≤ j ∧ j < 2 ^ 62 then .ok ⟨rangeC (0 + (((j - 0).toNat : Nat) : Int) - 1) (-1) (j - 0).toNat, []⟩ S else .err
  | _ => .err
def dRevR1 (fa : DE) : DI := fun env S => (fa env S).bind revRg1
section
variable {X : Cx} {raw : List (Nat × V)} {W : WX} {pos p p2 pos2 : Pos} {tg a b : Expr} {fa fb : DE}
theorem ix_revR2 (hg : Gl X "reversed") (hm : X.mg "reversed" = none) (hg2 : Gl X "range") (hm2 : X.mg "range" = none) (ha : EX X raw W a fa) (hb : EX X raw W b fb)
    (hs : starEach [a, b] X.env = (false, eval a X.env) :: starEach [b] X.env := by rfl) (hs2 : starEach [b] X.env = (false, eval b X.env) :: starEach [] X.env := by rfl) (hp : ((backTo pos2 (starEach [b] X.env)).any fun x => x.1) = false := by rfl)
    (hs3 : starEach [.Call (.Name "range" p2) [a, b] [] pos2] X.env = (false, eval (.Call (.Name "range" p2) [a, b] [] pos2) X.env) :: starEach [] X.env := by rfl) :
    IX X raw W tg (.Call (.Name "reversed" p) [.Call (.Name "range" p2) [a, b] [] pos2] [] pos) (dRevR2 fa fb) :=
  PI.imp (pi_revR hg hm (prg_2 hg2 hm2 ha hb hs hs2 hp) hs3) fun σ H Q ⟨ρ, env, S, er, s, h⟩ => tG_bindI er s h fun d S1 v ρ1 H1 st e1 s1 r1 h1 => tG_bindI e1 s1 h1 fun d2 S2 v2 ρ2 H2 st2 e2 s2 r2 h2 => by
    unfold revRg at h2
    split at h2
    · rename_i i j
      cases r1; cases r2
      split at h2
      · rename_i hb
        exact ⟨i, j, rfl, rfl, hb.1, hb.2.1, hb.2.2.1, hb.2.2.2, h2 _ ρ2 H2 (Stp.refl _ _) s2 wk_rangeC⟩
      · exact h2.elim
    · exact h2.elim
theorem ix_revR1 (hg : Gl X "reversed") (hm : X.mg "reversed" = none) (hg2 : Gl X "range") (hm2 : X.mg "range" = none) (ha : EX X raw W a fa)
    (hs : starEach [a] X.env = (false, eval a X.env) :: starEach [] X.env := by rfl)
    (hs3 : starEach [.Call (.Name "range" p2) [a] [] pos2] X.env = (false, eval (.Call (.Name "range" p2) [a] [] pos2) X.env) :: starEach [] X.env := by rfl) :
    IX X raw W tg (.Call (.Name "reversed" p) [.Call (.Name "range" p2) [a] [] pos2] [] pos) (dRevR1 fa) :=
  PI.imp (pi_revR hg hm (prg_1 hg2 hm2 ha hs) hs3) fun σ H Q ⟨ρ, env, S, er, s, h⟩ => tG_bindI er s h fun d S1 v ρ1 H1 st e1 s1 r1 h1 => by
    unfold revRg1 at h1
    split at h1
    · rename_i j
      cases r1
      split at h1
      · rename_i hb
        exact ⟨j, rfl, by decide, by decide, hb.1, hb.2, h1 _ ρ1 H1 (Stp.refl _ _) s1 wk_rangeC⟩
      · exact h1.elim
    · exact h1.elim
end
end RL

namespace RL
open PySem PySem.Spec PyProof.Rows L2
theorem ofString_inj' {a b : String} (h : Str.ofString a = Str.ofString b) : a = b := by
  rw [Str.ofString_eq_toList, Str.ofString_eq_toList] at h
  have h1 : a.toList.map Char.toNat = b.toList.map Char.toNat := by
    have := congrArg Str.cps h
    simpa using congrArg Array.toList this
  exact String.toList_inj.mp (List.map_inj_right (fun x y e => Char.ext (UInt32.toNat_inj.mp e)) |>.mp h1)
@[simp] theorem ofString_inj {a b : String} : Str.ofString a = Str.ofString b ↔ a = b := ⟨ofString_inj', fun h => by rw [h]⟩
@[simp] theorem ofString_beq {a b : String} : (Str.ofString a == Str.ofString b) = (a == b) := by rw [Bool.eq_iff_iff]; simp
/-! ### reckoning with mirrors: rewriting rules -/
section
variable {α β : Type} {env : RL.Env} {S : Sto} {f g : DS} {fe fa fb fc : DE} {ta tb : DT} {fs : DA}
def Fl.seq : Fl → DS → Fl
  | .nx e S, g => g e S
  | r, _ => r
@[simp] theorem Fl.seq_nx {e : RL.Env} : Fl.seq (.nx e S) g = g e S := rfl
@[simp] theorem Fl.seq_rt {d : D} : Fl.seq (.rt d S) g = .rt d S := rfl
@[simp] theorem Fl.seq_bk {e : RL.Env} : Fl.seq (.bk e S) g = .bk e S := rfl
@[simp] theorem Fl.seq_ct {e : RL.Env} : Fl.seq (.ct e S) g = .ct e S := rfl
@[simp] theorem Fl.seq_exc {c : Str} {e : RL.Env} : Fl.seq (.exc c e S) g = .exc c e S := rfl
@[simp] theorem Fl.seq_err : Fl.seq .err g = .err := rfl
@[simp] theorem dSeq_eq : dSeq f g env S = Fl.seq (f env S) g := by unfold dSeq Fl.seq; cases f env S <;> rfl
def Fl.toR : Fl → R D
  | .nx _ S => .ok .non S
  | .rt d S => .ok d S
  | .exc c _ S => .exc c S
  | _ => .err
@[simp] theorem Fl.toR_nx {e : RL.Env} : Fl.toR (.nx e S) = .ok .non S := rfl
@[simp] theorem Fl.toR_rt {d : D} : Fl.toR (.rt d S) = .ok d S := rfl
@[simp] theorem Fl.toR_exc {c : Str} {e : RL.Env} : Fl.toR (.exc c e S) = .exc c S := rfl
@[simp] theorem Fl.toR_err : Fl.toR .err = .err := rfl
theorem runB_eq {n : Nat} {ds : List D} : runB n f ds S = Fl.toR (f (ds.map some ++ List.replicate (n - ds.length) none) S) := by unfold runB Fl.toR; rfl
@[simp] theorem dSkip_eq : dSkip env S = .nx env S := rfl
@[simp] theorem dBreak_eq : dBreak env S = .bk env S := rfl
@[simp] theorem dCont_eq : dCont env S = .ct env S := rfl
@[simp] theorem dRetN_eq : dRetN env S = .rt .non S := rfl
@[simp] theorem dRaise_eq {c : Str} : dRaise c env S = .exc c env S := rfl
@[simp] theorem dDrop_eq : dDrop fe env S = thenS (fe env S) env fun _ S' => .nx env S' := rfl
@[simp] theorem dRet_eq : dRet fe env S = thenS (fe env S) env fun d S' => .rt d S' := rfl
@[simp] theorem dIf_eq : dIf ta f g env S = thenS (ta env S) env fun k S' => if k = true then f env S' else g env S' := rfl
@[simp] theorem dSet_eq {i : Nat} : dSet i fe env S = thenS (fe env S) env fun d S' => .nx (env.set i (some d)) S' := rfl
@[simp] theorem dAsg_eq {t : DG} : dAsg fe t env S = thenS (fe env S) env fun d S1 => asFl env (t d env S1) := rfl
@[simp] theorem asFl_ok {e : RL.Env} : asFl env (.ok e S) = .nx e S := rfl
@[simp] theorem asFl_err : asFl env .err = .err := rfl
@[simp] theorem noEx_ok {a : α} : noEx (.ok a S) = .ok a S := rfl
@[simp] theorem noEx_exc {c : Str} : noEx (.exc c S : R α) = .err := rfl
@[simp] theorem noEx_err : noEx (.err : R α) = .err := rfl
@[simp] theorem sName_eq {i : Nat} {d : D} : sName i d env S = .ok (env.set i (some d)) S := rfl
@[simp] theorem sSub_eq {d : D} : sSub fa fb d env S = (noEx (fa env S)).bind fun o S1 => (noEx (fb env S1)).bind fun i S2 => (setI o i d S2).bind fun _ S3 => .ok env S3 := rfl
@[simp] theorem sTup_eq {n : Nat} {t : DGs} {ds : List D} : sTup n t (.tup ds) env S = if ds.length = n then t ds env S else .err := rfl
@[simp] theorem sTupA_tup {n : Nat} {t : DGs} {ds : List D} : sTupA n t (.tup ds) env S = if ds.length = n then t ds env S else .err := rfl
theorem sTupA_ref {n k : Nat} {t : DGs} {ds : List D} (h : S[k]? = some (.lst ds)) : sTupA n t (.ref k) env S = if ds.length = n then t ds env S else .err := by unfold sTupA; simp only [h]
@[simp] theorem sCons_eq {t : DG} {u : DGs} {d : D} {ds : List D} : sCons t u (d :: ds) env S = (t d env S).bind fun e S1 => u ds e S1 := rfl
@[simp] theorem sNil_eq : sNil [] env S = .ok env S := rfl
def setO (n : Nat) (i v : D) (S : Sto) : Option O → R Unit
  | some (.lst ds) => match i with
      | .int k => match ixN ds.length k with
        | some j => .ok () (S.set n (.lst (ds.set j v)))
        | none => .err
      | _ => .err
  | some (.dict kvs) => if isKey i = true ∧ kvs.length < lim then .ok () (S.set n (.dict (putD kvs i v))) else .err
  | _ => .err
@[simp] theorem setI_ref {n : Nat} {i v : D} : setI (.ref n) i v S = setO n i v S S[n]? := by
  unfold setI setO; rfl
def setL (n : Nat) (ds : List D) (v : D) (S : Sto) : Option Nat → R Unit
  | some j => .ok () (S.set n (.lst (ds.set j v)))
  | none => .err
@[simp] theorem setO_lst {n : Nat} {k : Int} {v : D} {ds : List D} : setO n (.int k) v S (some (.lst ds)) = setL n ds v S (ixN ds.length k) := rfl
@[simp] theorem setL_some {n j : Nat} {v : D} {ds : List D} : setL n ds v S (some j) = .ok () (S.set n (.lst (ds.set j v))) := rfl
@[simp] theorem setO_dict {n : Nat} {k v : D} {kvs : List (D × D)} : setO n k v S (some (.dict kvs)) = if isKey k = true ∧ kvs.length < lim then .ok () (S.set n (.dict (putD kvs k v))) else .err := rfl
@[simp] theorem isKey_int {i : Int} : isKey (.int i) = true := rfl
@[simp] theorem isKey_str {i : Str} : isKey (.str i) = true := rfl
@[simp] theorem dBin_eq {h : G2} : dBin h fa fb env S = (fa env S).bind fun x S1 => (fb env S1).bind fun y S2 => h x y S2 := rfl
@[simp] theorem dUn_eq {h : G1} : dUn h fa env S = (fa env S).bind fun x S1 => h x S1 := rfl
@[simp] theorem dT_eq : dT fe env S = asB (fe env S) := rfl
@[simp] theorem asB_exc {c : Str} : asB (.exc c S) = .exc c S := rfl
@[simp] theorem asB_err : asB .err = .err := rfl
@[simp] theorem dAnd_eq : dAnd ta tb env S = (ta env S).bind fun k S1 => if k = true then tb env S1 else .ok false S1 := rfl
@[simp] theorem dOr_eq : dOr ta tb env S = (ta env S).bind fun k S1 => if k = true then .ok true S1 else tb env S1 := rfl
@[simp] theorem dNot_eq : dNot ta env S = (ta env S).bind fun k S1 => .ok (!k) S1 := rfl
@[simp] theorem dAndV_eq : dAndV fa fb env S = (asB (fa env S)).bind fun k S1 => if k = true then fb env S1 else .ok (.bl false) S1 := rfl
@[simp] theorem dOrV_eq : dOrV fa fb env S = (asB (fa env S)).bind fun k S1 => if k = true then .ok (.bl true) S1 else fb env S1 := rfl
@[simp] theorem dNotV_eq : dNotV fa env S = (asB (fa env S)).bind fun k S1 => .ok (.bl (!k)) S1 := rfl
@[simp] theorem dIfE_eq : dIfE ta fa fb env S = (ta env S).bind fun k S1 => if k = true then fa env S1 else fb env S1 := rfl
@[simp] theorem dChain_eq {h h' : G2} : dChain h h' fa fb fc env S = (fa env S).bind fun x S1 => (fb env S1).bind fun y S2 => (asB (h x y S2)).bind fun k S3 => if k = true then (fc env S3).bind fun z S4 => h' y z S4 else .ok (.bl false) S3 := rfl
def getE (S : Sto) : Option (Option D) → R D
  | some (some d) => .ok d S
  | _ => .err
@[simp] theorem getE_some {d : D} : getE S (some (some d)) = .ok d S := rfl
@[simp] theorem dV_eq {i : Nat} : dV i env S = getE S env[i]? := rfl
@[simp] theorem dC_eq {d : D} : dC d env S = .ok d S := rfl
@[simp] theorem dNilA_eq : dNilA env S = .ok [] S := rfl
@[simp] theorem dConsA_eq : dConsA fe fs env S = (fe env S).bind fun x S1 => (fs env S1).bind fun xs S2 => .ok (x :: xs) S2 := rfl
@[simp] theorem dTup_eq : dTup fs env S = (fs env S).bind newT := rfl
@[simp] theorem dLst_eq : dLst fs env S = (fs env S).bind newL := rfl
theorem newT_ok {ds : List D} (h : ds.length ≤ 1000) : newT ds S = .ok (.tup ds) S := by unfold newT; rw [if_pos (by unfold lim; omega)]
theorem newL_ok {ds : List D} (h : ds.length ≤ 1000) : newL ds S = .ok (.ref S.length) (S ++ [.lst ds]) := by unfold newL; rw [if_pos (by unfold lim; omega)]
@[simp] theorem newT0 : newT [] S = .ok (.tup []) S := newT_ok (by simp)
@[simp] theorem newL0 : newL [] S = .ok (.ref S.length) (S ++ [.lst []]) := newL_ok (by simp)
@[simp] theorem dCB_eq {h : GA} : dCB h fs env S = (fs env S).bind h := rfl
@[simp] theorem dCall_eq {n : Nat} {m : Fn} : dCall n m fs env S = (fs env S).bind fun ds S1 => if ds.length = n then m ds S1 else .err := rfl
-- ints
@[simp] theorem gAdd_int {i j : Int} : gAdd (.int i) (.int j) S = .ok (.int (i + j)) S := rfl
@[simp] theorem gSub_int {i j : Int} : RL.gSub (.int i) (.int j) S = .ok (.int (i - j)) S := rfl
theorem gMul_int {i j : Int} (h : i.natAbs < 2 ^ 200 ∧ j.natAbs < 2 ^ 200) : gMul (.int i) (.int j) S = .ok (.int (i * j)) S := by
  unfold gMul
  have a : ∀ n : Nat, n < 2 ^ 200 → n.log2 ≤ 200 := fun n hn => by
    by_cases z : n = 0
    · subst z; decide
    · exact Nat.le_of_lt ((Nat.log2_lt z).mpr hn)
  have h1 := a _ h.1
  have h2 := a _ h.2
  dsimp only
  rw [if_pos (by omega)]
theorem gDiv_int {i j : Int} (h : 0 < j) (h2 : j < 2 ^ 200) : gDiv (.int i) (.int j) S = .ok (.int (i / j)) S := by
  unfold gDiv
  have a : j.natAbs.log2 < 9000 := by
    have : j.natAbs < 2 ^ 200 := by omega
    by_cases z : j.natAbs = 0
    · rw [z]; decide
    · exact Nat.lt_of_lt_of_le ((Nat.log2_lt z).mpr this) (by decide)
  dsimp only
  rw [if_pos ⟨h, a⟩]
theorem gMod_int {i j : Int} (h : 0 < j) : gMod (.int i) (.int j) S = .ok (.int (i % j)) S := by
  unfold gMod; dsimp only; rw [if_pos h]
@[simp] theorem gPow_10 : gPow (.int 10) (.int 9) S = .ok (.int 1000000000) S := rfl
@[simp] theorem gPow_10_6 : gPow (.int 10) (.int 6) S = .ok (.int 1000000) S := rfl
@[simp] theorem gPow_10_12 : gPow (.int 10) (.int 12) S = .ok (.int 1000000000000) S := rfl
@[simp] theorem gPow_10_18 : gPow (.int 10) (.int 18) S = .ok (.int 1000000000000000000) S := rfl
@[simp] theorem gNeg_int {i : Int} : gNeg (.int i) S = .ok (.int (-i)) S := rfl
@[simp] theorem gCmp_int {p : Int → Int → Bool} {i j : Int} : gCmp p (.int i) (.int j) S = .ok (.bl (p i j)) S := rfl
@[simp] theorem gEq_int {i j : Int} : gEq (.int i) (.int j) S = .ok (.bl (decide (i = j))) S := rfl
@[simp] theorem gEq_str {i j : Str} : gEq (.str i) (.str j) S = .ok (.bl (decide (i = j))) S := rfl
@[simp] theorem gEq_bl {i j : Bool} : gEq (.bl i) (.bl j) S = .ok (.bl (decide (i = j))) S := rfl
@[simp] theorem gNe_int {i j : Int} : gNe (.int i) (.int j) S = .ok (.bl (!decide (i = j))) S := rfl
@[simp] theorem gNe_str {i j : Str} : gNe (.str i) (.str j) S = .ok (.bl (!decide (i = j))) S := rfl
@[simp] theorem gNe_bl {i j : Bool} : gNe (.bl i) (.bl j) S = .ok (.bl (!decide (i = j))) S := rfl
@[simp] theorem gIsN_eq {x : D} : gIsN x .non S = .ok (.bl (isNon x)) S := rfl
@[simp] theorem gNotN_eq {x : D} : gNotN x .non S = .ok (.bl (!isNon x)) S := rfl
@[simp] theorem gIsB_eq {a b : Bool} : gIsB (.bl a) (.bl b) S = .ok (.bl (decide (a = b))) S := rfl
@[simp] theorem isNon_non : isNon .non = true := rfl
@[simp] theorem isNon_int {i : Int} : isNon (.int i) = false := rfl
@[simp] theorem isNon_str {i : Str} : isNon (.str i) = false := rfl
@[simp] theorem isNon_bl {i : Bool} : isNon (.bl i) = false := rfl
@[simp] theorem isNon_tup {i : List D} : isNon (.tup i) = false := rfl
@[simp] theorem isNon_ref {i : Nat} : isNon (.ref i) = false := rfl
theorem gAdd_str {a b : Str} : gAdd (.str a) (.str b) S = if a.length + b.length ≤ lim then .ok (.str (a ++ b)) S else .err := rfl
theorem gAdd_tup {a b : List D} : gAdd (.tup a) (.tup b) S = if a.length + b.length ≤ lim then .ok (.tup (a ++ b)) S else .err := rfl
def addO (S : Sto) : Option O → Option O → R D
  | some (.lst a), some (.lst b) => if a.length + b.length ≤ lim then .ok (.ref S.length) (S ++ [.lst (a ++ b)]) else .err
  | _, _ => .err
@[simp] theorem gAdd_ref {n m : Nat} : gAdd (.ref n) (.ref m) S = addO S S[n]? S[m]? := by unfold gAdd addO; rfl
theorem addO_lst {a b : List D} : addO S (some (.lst a)) (some (.lst b)) = if a.length + b.length ≤ lim then .ok (.ref S.length) (S ++ [.lst (a ++ b)]) else .err := rfl
-- x[i]
def ixR (S : Sto) : Option D → R D
  | some d => .ok d S
  | none => .err
@[simp] theorem ixR_some {d : D} : ixR S (some d) = .ok d S := rfl
def ixO (k : D) (S : Sto) : Option O → R D
  | some (.lst ds) => match k with
      | .int i => match L2.atI ds i with
        | some d => .ok d S
        | none => .err
      | _ => .err
  | some (.dict kvs) => if isKey k = true then (match findK kvs k with
      | some d => .ok d S
      | none => .err) else .err
  | some (.fd kvs) => if isKey k = true then (match findK kvs k with
      | some d => .ok d S
      | none => .err) else .err
  | _ => .err
@[simp] theorem gIx_ref {n : Nat} {k : D} : gIx (.ref n) k S = ixO k S S[n]? := by unfold gIx ixO; cases k <;> rfl
@[simp] theorem ixO_lst {ds : List D} {i : Int} : ixO (.int i) S (some (.lst ds)) = ixR S (L2.atI ds i) := rfl
@[simp] theorem ixO_dict {kvs : List (D × D)} {k : D} : ixO k S (some (.dict kvs)) = if isKey k = true then ixR S (findK kvs k) else .err := rfl
@[simp] theorem ixO_fd {kvs : List (D × D)} {k : D} : ixO k S (some (.fd kvs)) = if isKey k = true then ixR S (findK kvs k) else .err := rfl
@[simp] theorem gIx_tup {ds : List D} {i : Int} : gIx (.tup ds) (.int i) S = ixR S (L2.atI ds i) := rfl
@[simp] theorem gIx_scr {ds : List D} {i : Int} : gIx (.scr ds) (.int i) S = ixR S (L2.atI ds i) := rfl
@[simp] theorem atI_0 {xs : List α} : L2.atI xs 0 = xs[0]? := by cases xs <;> simp [L2.atI, ixN]
theorem atI_natCast {xs : List α} {k : Nat} : L2.atI xs (k : Int) = xs[k]? := by
  unfold L2.atI ixN
  by_cases h : k < xs.length
  · simp [h]
  · simp [h]
@[simp] theorem atI_1 {xs : List α} : L2.atI xs 1 = xs[1]? := atI_natCast (k := 1)
@[simp] theorem atI_2 {xs : List α} : L2.atI xs 2 = xs[2]? := atI_natCast (k := 2)
@[simp] theorem atI_3 {xs : List α} : L2.atI xs 3 = xs[3]? := atI_natCast (k := 3)
@[simp] theorem atI_4 {xs : List α} : L2.atI xs 4 = xs[4]? := atI_natCast (k := 4)
@[simp] theorem atI_5 {xs : List α} : L2.atI xs 5 = xs[5]? := atI_natCast (k := 5)
@[simp] theorem atI_6 {xs : List α} : L2.atI xs 6 = xs[6]? := atI_natCast (k := 6)
@[simp] theorem atI_7 {xs : List α} : L2.atI xs 7 = xs[7]? := atI_natCast (k := 7)
@[simp] theorem atI_8 {xs : List α} : L2.atI xs 8 = xs[8]? := atI_natCast (k := 8)
@[simp] theorem atI_9 {xs : List α} : L2.atI xs 9 = xs[9]? := atI_natCast (k := 9)
@[simp] theorem atI_10 {xs : List α} : L2.atI xs 10 = xs[10]? := atI_natCast (k := 10)
@[simp] theorem atI_11 {xs : List α} : L2.atI xs 11 = xs[11]? := atI_natCast (k := 11)
@[simp] theorem atI_12 {xs : List α} : L2.atI xs 12 = xs[12]? := atI_natCast (k := 12)
@[simp] theorem atI_13 {xs : List α} : L2.atI xs 13 = xs[13]? := atI_natCast (k := 13)
@[simp] theorem atI_14 {xs : List α} : L2.atI xs 14 = xs[14]? := atI_natCast (k := 14)
@[simp] theorem atI_15 {xs : List α} : L2.atI xs 15 = xs[15]? := atI_natCast (k := 15)
@[simp] theorem atI_16 {xs : List α} : L2.atI xs 16 = xs[16]? := atI_natCast (k := 16)
@[simp] theorem atI_17 {xs : List α} : L2.atI xs 17 = xs[17]? := atI_natCast (k := 17)
@[simp] theorem atI_18 {xs : List α} : L2.atI xs 18 = xs[18]? := atI_natCast (k := 18)
@[simp] theorem atI_19 {xs : List α} : L2.atI xs 19 = xs[19]? := atI_natCast (k := 19)
@[simp] theorem atI_20 {xs : List α} : L2.atI xs 20 = xs[20]? := atI_natCast (k := 20)
@[simp] theorem atI_21 {xs : List α} : L2.atI xs 21 = xs[21]? := atI_natCast (k := 21)
@[simp] theorem atI_22 {xs : List α} : L2.atI xs 22 = xs[22]? := atI_natCast (k := 22)
@[simp] theorem atI_23 {xs : List α} : L2.atI xs 23 = xs[23]? := atI_natCast (k := 23)
@[simp] theorem atI_24 {xs : List α} : L2.atI xs 24 = xs[24]? := atI_natCast (k := 24)
@[simp] theorem atI_25 {xs : List α} : L2.atI xs 25 = xs[25]? := atI_natCast (k := 25)
@[simp] theorem atI_26 {xs : List α} : L2.atI xs 26 = xs[26]? := atI_natCast (k := 26)
@[simp] theorem atI_27 {xs : List α} : L2.atI xs 27 = xs[27]? := atI_natCast (k := 27)
@[simp] theorem atI_28 {xs : List α} : L2.atI xs 28 = xs[28]? := atI_natCast (k := 28)
@[simp] theorem atI_29 {xs : List α} : L2.atI xs 29 = xs[29]? := atI_natCast (k := 29)
@[simp] theorem atI_30 {xs : List α} : L2.atI xs 30 = xs[30]? := atI_natCast (k := 30)
theorem atI_neg {xs : List α} {d : α} (h : xs.getLast? = some d) : L2.atI xs (-1) = some d := by
  obtain ⟨l, rfl⟩ : ∃ l, xs = l ++ [d] := by
    rw [List.getLast?_eq_some_iff] at h
    exact h
  exact L2.atI_last l d
theorem atI_of {xs : List α} {i : Int} (h0 : 0 ≤ i) : L2.atI xs i = xs[i.toNat]? := by
  have := atI_natCast (xs := xs) (k := i.toNat)
  rwa [Int.toNat_of_nonneg h0] at this
theorem atI_mem {xs : List α} {i : Int} (h0 : 0 ≤ i) (h1 : i < xs.length) : ∃ d, L2.atI xs i = some d ∧ d ∈ xs := by
  rw [atI_of h0]
  have h : i.toNat < xs.length := by omega
  exact ⟨xs[i.toNat], List.getElem?_eq_getElem h, List.getElem_mem h⟩
theorem ixN_natCast {n k : Nat} (h : k < n) : ixN n (k : Int) = some k := by simp [ixN, h]
@[simp] theorem ixN_0 {n : Nat} (h : 0 < n) : ixN n 0 = some 0 := ixN_natCast (k := 0) h
@[simp] theorem ixN_1 {n : Nat} (h : 1 < n) : ixN n 1 = some 1 := ixN_natCast (k := 1) h
@[simp] theorem ixN_2 {n : Nat} (h : 2 < n) : ixN n 2 = some 2 := ixN_natCast (k := 2) h
@[simp] theorem ixN_3 {n : Nat} (h : 3 < n) : ixN n 3 = some 3 := ixN_natCast (k := 3) h
@[simp] theorem ixN_4 {n : Nat} (h : 4 < n) : ixN n 4 = some 4 := ixN_natCast (k := 4) h
@[simp] theorem ixN_5 {n : Nat} (h : 5 < n) : ixN n 5 = some 5 := ixN_natCast (k := 5) h
@[simp] theorem ixN_6 {n : Nat} (h : 6 < n) : ixN n 6 = some 6 := ixN_natCast (k := 6) h
@[simp] theorem ixN_7 {n : Nat} (h : 7 < n) : ixN n 7 = some 7 := ixN_natCast (k := 7) h
@[simp] theorem ixN_8 {n : Nat} (h : 8 < n) : ixN n 8 = some 8 := ixN_natCast (k := 8) h
@[simp] theorem ixN_9 {n : Nat} (h : 9 < n) : ixN n 9 = some 9 := ixN_natCast (k := 9) h
@[simp] theorem ixN_10 {n : Nat} (h : 10 < n) : ixN n 10 = some 10 := ixN_natCast (k := 10) h
@[simp] theorem ixN_11 {n : Nat} (h : 11 < n) : ixN n 11 = some 11 := ixN_natCast (k := 11) h
@[simp] theorem ixN_12 {n : Nat} (h : 12 < n) : ixN n 12 = some 12 := ixN_natCast (k := 12) h
@[simp] theorem ixN_13 {n : Nat} (h : 13 < n) : ixN n 13 = some 13 := ixN_natCast (k := 13) h
@[simp] theorem ixN_14 {n : Nat} (h : 14 < n) : ixN n 14 = some 14 := ixN_natCast (k := 14) h
@[simp] theorem ixN_15 {n : Nat} (h : 15 < n) : ixN n 15 = some 15 := ixN_natCast (k := 15) h
@[simp] theorem ixN_16 {n : Nat} (h : 16 < n) : ixN n 16 = some 16 := ixN_natCast (k := 16) h
@[simp] theorem ixN_17 {n : Nat} (h : 17 < n) : ixN n 17 = some 17 := ixN_natCast (k := 17) h
@[simp] theorem ixN_18 {n : Nat} (h : 18 < n) : ixN n 18 = some 18 := ixN_natCast (k := 18) h
@[simp] theorem ixN_19 {n : Nat} (h : 19 < n) : ixN n 19 = some 19 := ixN_natCast (k := 19) h
@[simp] theorem ixN_20 {n : Nat} (h : 20 < n) : ixN n 20 = some 20 := ixN_natCast (k := 20) h
@[simp] theorem ixN_21 {n : Nat} (h : 21 < n) : ixN n 21 = some 21 := ixN_natCast (k := 21) h
@[simp] theorem ixN_22 {n : Nat} (h : 22 < n) : ixN n 22 = some 22 := ixN_natCast (k := 22) h
@[simp] theorem ixN_23 {n : Nat} (h : 23 < n) : ixN n 23 = some 23 := ixN_natCast (k := 23) h
@[simp] theorem ixN_24 {n : Nat} (h : 24 < n) : ixN n 24 = some 24 := ixN_natCast (k := 24) h
@[simp] theorem ixN_25 {n : Nat} (h : 25 < n) : ixN n 25 = some 25 := ixN_natCast (k := 25) h
@[simp] theorem ixN_26 {n : Nat} (h : 26 < n) : ixN n 26 = some 26 := ixN_natCast (k := 26) h
@[simp] theorem ixN_27 {n : Nat} (h : 27 < n) : ixN n 27 = some 27 := ixN_natCast (k := 27) h
@[simp] theorem ixN_28 {n : Nat} (h : 28 < n) : ixN n 28 = some 28 := ixN_natCast (k := 28) h
@[simp] theorem ixN_29 {n : Nat} (h : 29 < n) : ixN n 29 = some 29 := ixN_natCast (k := 29) h
@[simp] theorem ixN_30 {n : Nat} (h : 30 < n) : ixN n 30 = some 30 := ixN_natCast (k := 30) h
theorem setAt {S : Sto} {n : Nat} (h : n < S.length) (o : O) : (S.set n o)[n]? = some o := List.getElem?_set_self h
-- in
@[simp] theorem gIn_tup {x : D} {ds : List D} (h : (flatD x && ds.all flatD) = true) : gIn x (.tup ds) S = .ok (.bl (ds.any fun e => eqF e x)) S := by
  unfold gIn inD; simp only [h, if_true]
@[simp] theorem gNotIn_tup {x : D} {ds : List D} (h : (flatD x && ds.all flatD) = true) : gNotIn x (.tup ds) S = .ok (.bl (!ds.any fun e => eqF e x)) S := by
  unfold gNotIn inD; simp only [h, if_true]
@[simp] theorem flatD_int {i : Int} : flatD (.int i) = true := rfl
@[simp] theorem flatD_str {i : Str} : flatD (.str i) = true := rfl
@[simp] theorem flatD_bl {i : Bool} : flatD (.bl i) = true := rfl
@[simp] theorem flatD_non : flatD .non = true := rfl
@[simp] theorem eqF_ii {i j : Int} : eqF (.int i) (.int j) = (i == j) := rfl
@[simp] theorem eqF_ss {i j : Str} : eqF (.str i) (.str j) = (i == j) := rfl
-- isinstance
@[simp] theorem gIsi_non {T : String} : gIsi T .non S = .ok (.bl (isiT "NoneType" T)) S := rfl
@[simp] theorem gIsi_bl {T : String} {b : Bool} : gIsi T (.bl b) S = .ok (.bl (isiT "bool" T)) S := rfl
@[simp] theorem gIsi_int {T : String} {b : Int} : gIsi T (.int b) S = .ok (.bl (isiT "int" T)) S := rfl
@[simp] theorem gIsi_str {T : String} {b : Str} : gIsi T (.str b) S = .ok (.bl (isiT "str" T)) S := rfl
@[simp] theorem gIsi_tup {T : String} {b : List D} : gIsi T (.tup b) S = .ok (.bl (isiT "tuple" T)) S := rfl
def isiO (T : String) (S : Sto) : Option O → R D
  | some (.lst _) => .ok (.bl (isiT "list" T)) S
  | some (.dict _) => .ok (.bl (isiT "dict" T)) S
  | _ => .err
@[simp] theorem gIsi_ref {T : String} {n : Nat} : gIsi T (.ref n) S = isiO T S S[n]? := by
  unfold gIsi tyD isiO
  dsimp only
  cases S[n]? with
  | none => rfl
  | some o => cases o <;> rfl
@[simp] theorem isiO_lst {T : String} {ds : List D} : isiO T S (some (.lst ds)) = .ok (.bl (isiT "list" T)) S := rfl
@[simp] theorem isiO_dict {T : String} {ds : List (D × D)} : isiO T S (some (.dict ds)) = .ok (.bl (isiT "dict" T)) S := rfl
@[simp] theorem isiT_1 : isiT "int" "int" = true := rfl
@[simp] theorem isiT_2 : isiT "bool" "int" = true := rfl
@[simp] theorem isiT_3 : isiT "str" "int" = false := rfl
@[simp] theorem isiT_4 : isiT "NoneType" "int" = false := rfl
@[simp] theorem isiT_5 : isiT "tuple" "int" = false := rfl
@[simp] theorem isiT_6 : isiT "list" "int" = false := rfl
@[simp] theorem isiT_7 : isiT "dict" "int" = false := rfl
@[simp] theorem isiT_8 : isiT "bool" "bool" = true := rfl
@[simp] theorem isiT_9 : isiT "int" "bool" = false := rfl
@[simp] theorem isiT_10 : isiT "str" "bool" = false := rfl
@[simp] theorem isiT_11 : isiT "NoneType" "bool" = false := rfl
@[simp] theorem isiT_12 : isiT "tuple" "bool" = false := rfl
@[simp] theorem isiT_13 : isiT "list" "bool" = false := rfl
@[simp] theorem isiT_14 : isiT "dict" "bool" = false := rfl
@[simp] theorem isiT_15 : isiT "str" "str" = true := rfl
@[simp] theorem isiT_16 : isiT "int" "str" = false := rfl
@[simp] theorem isiT_17 : isiT "bool" "str" = false := rfl
@[simp] theorem isiT_18 : isiT "NoneType" "str" = false := rfl
@[simp] theorem isiT_19 : isiT "tuple" "str" = false := rfl
@[simp] theorem isiT_20 : isiT "list" "str" = false := rfl
@[simp] theorem isiT_21 : isiT "dict" "str" = false := rfl
@[simp] theorem isiT_22 : isiT "tuple" "tuple" = true := rfl
@[simp] theorem isiT_23 : isiT "int" "tuple" = false := rfl
@[simp] theorem isiT_24 : isiT "bool" "tuple" = false := rfl
@[simp] theorem isiT_25 : isiT "NoneType" "tuple" = false := rfl
@[simp] theorem isiT_26 : isiT "str" "tuple" = false := rfl
@[simp] theorem isiT_27 : isiT "list" "tuple" = false := rfl
@[simp] theorem isiT_28 : isiT "dict" "tuple" = false := rfl
@[simp] theorem isiT_29 : isiT "list" "list" = true := rfl
-- len
@[simp] theorem gLen_tup {ds : List D} : gLen [.tup ds] S = .ok (.int ds.length) S := rfl
@[simp] theorem gLen_scr {ds : List D} : gLen [.scr ds] S = .ok (.int ds.length) S := rfl
def lenO (S : Sto) : Option O → R D
  | some (.lst ds) => .ok (.int ds.length) S
  | some (.dict kvs) => .ok (.int kvs.length) S
  | _ => .err
@[simp] theorem gLen_ref {n : Nat} : gLen [.ref n] S = lenO S S[n]? := by unfold gLen lenO; rfl
@[simp] theorem lenO_lst {ds : List D} : lenO S (some (.lst ds)) = .ok (.int ds.length) S := rfl
@[simp] theorem lenO_dict {ds : List (D × D)} : lenO S (some (.dict ds)) = .ok (.int ds.length) S := rfl
@[simp] theorem gAbs_int {i : Int} : gAbs [.int i] S = .ok (.int (if i < 0 then -i else i)) S := rfl
theorem gAdd_str_ok {a b : Str} (h : a.length + b.length ≤ 16777216) : gAdd (.str a) (.str b) S = .ok (.str (a ++ b)) S := by rw [gAdd_str]; exact if_pos h
theorem gAdd_tup_ok {a b : List D} (h : a.length + b.length ≤ 16777216) : gAdd (.tup a) (.tup b) S = .ok (.tup (a ++ b)) S := by rw [gAdd_tup]; exact if_pos h
theorem addO_ok {a b : List D} (h : a.length + b.length ≤ 16777216) : addO S (some (.lst a)) (some (.lst b)) = .ok (.ref S.length) (S ++ [.lst (a ++ b)]) := by rw [addO_lst]; exact if_pos h
-- slices
@[simp] theorem dSl_eq {h : GS} {fl fh : DO} : dSl h fe fl fh env S = (fe env S).bind fun x S1 => (fl env S1).bind fun l S2 => (fh env S2).bind fun u S3 => h x l u S3 := rfl
@[simp] theorem dNoPart_eq : dNoPart env S = .ok none S := rfl
def partR (x : D) (S : Sto) : R (Option Int) := match x with
  | .int i => .ok (some i) S
  | _ => .err
@[simp] theorem partR_int {i : Int} : partR (.int i) S = .ok (some i) S := rfl
@[simp] theorem dPart_eq : dPart fe env S = (fe env S).bind partR := rfl
@[simp] theorem gSl_tup {ds : List D} {lo hi : Option Int} : gSl (.tup ds) lo hi S = .ok (.tup (cutD ds lo hi)) S := rfl
@[simp] theorem gSl_scr {ds : List D} {lo hi : Option Int} : gSl (.scr ds) lo hi S = .ok (.ref S.length) (S ++ [.lst (cutD ds lo hi)]) := rfl
theorem gSl_str {z : Str} {lo hi : Option Int} (h : z.length ≤ 16777216) : gSl (.str z) lo hi S = .ok (.str (cutS z lo hi)) S := by unfold gSl; exact if_pos h
def slO (lo hi : Option Int) (S : Sto) : Option O → R D
  | some (.lst ds) => .ok (.ref S.length) (S ++ [.lst (cutD ds lo hi)])
  | _ => .err
@[simp] theorem gSl_ref {n : Nat} {lo hi : Option Int} : gSl (.ref n) lo hi S = slO lo hi S S[n]? := by unfold gSl slO; rfl
@[simp] theorem slO_lst {ds : List D} {lo hi : Option Int} : slO lo hi S (some (.lst ds)) = .ok (.ref S.length) (S ++ [.lst (cutD ds lo hi)]) := rfl
theorem cutS_len {z : Str} {lo hi : Option Int} : (cutS z lo hi).length ≤ z.length := by
  unfold cutS Str.length
  simp only [List.size_toArray, List.length_take, List.length_drop]
  have : z.cps.toList.length = z.cps.size := by simp
  omega
-- methods
@[simp] theorem dMt_eq {T : String} {h : GM} : dMt T h fe fs env S = (fe env S).bind fun x S1 => if tyOk T x S1 = true then (fs env S1).bind fun xs S2 => h x xs S2 else .err := rfl
@[simp] theorem dMt0_eq {T : String} {h : GM} : dMt0 T h fe env S = (fe env S).bind fun x S1 => if tyOk T x S1 = true then h x [] S1 else .err := rfl
@[simp] theorem tyOk_str {T : String} {z : Str} : tyOk T (.str z) S = (T == "str") := rfl
@[simp] theorem tyOk_scr {T : String} {z : List D} : tyOk T (.scr z) S = (T == "list") := rfl
def tyOkO (T : String) : Option O → Bool
  | some (.lst _) => T == "list"
  | some (.dict _) => T == "dict"
  | _ => false
@[simp] theorem tyOk_ref {T : String} {n : Nat} : tyOk T (.ref n) S = tyOkO T S[n]? := by unfold tyOk tyOkO; rfl
@[simp] theorem tyOkO_lst {T : String} {ds : List D} : tyOkO T (some (.lst ds)) = (T == "list") := rfl
@[simp] theorem tyOkO_dict {T : String} {ds : List (D × D)} : tyOkO T (some (.dict ds)) = (T == "dict") := rfl
theorem gUpper_ok {z : Str} (h : z.length ≤ 5592405) : gUpper (.str z) [] S = .ok (.str (Txt.upper z)) S := by unfold gUpper; exact if_pos h
theorem gSplit_ok {a b : Str} (h : (b.length == 0) = false) (h2 : a.length + 2 ≤ 16777216) : gSplit (.str a) [.str b] S = .ok (.ref S.length) (S ++ [.lst ((Txt.split a b).map D.str)]) := by unfold gSplit; exact if_pos ⟨h, h2⟩
theorem gAppend_ok {n : Nat} {ds : List D} {y : D} (h : S[n]? = some (.lst ds)) (h2 : ds.length < 16777216) : gAppend (.ref n) [y] S = .ok .non (S.set n (.lst (ds ++ [y]))) := by
  unfold gAppend lstAt; simp only [h]; exact if_pos h2
theorem gGet2_ok {n : Nat} {kvs : List (D × D)} {k z : D} (h : S[n]? = some (.dict kvs)) (h2 : isKey k = true) : gGet2 (.ref n) [k, z] S = .ok ((findK kvs k).getD z) S := by
  unfold gGet2 dctAt; simp only [h, h2, if_true]
theorem gGet1_ok {n : Nat} {kvs : List (D × D)} {k : D} (h : S[n]? = some (.dict kvs)) (h2 : isKey k = true) : gGet1 (.ref n) [k] S = .ok ((findK kvs k).getD .non) S := by
  unfold gGet1 dctAt; simp only [h, h2, if_true]
-- dicts
@[simp] theorem dDict0_eq : dDict0 env S = .ok (.ref S.length) (S ++ [.dict []]) := rfl
def dictR (kvs : List (D × D)) (S : Sto) : R D := if keysOk kvs = true ∧ kvs.length ≤ 15 then .ok (.ref S.length) (S ++ [.dict (mergeD [] kvs)]) else .err
@[simp] theorem dDict_eq {ps : List (DE × DE)} : dDict ps env S = (pairsE ps env S).bind dictR := rfl
@[simp] theorem pairsE_nil : pairsE [] env S = .ok [] S := rfl
@[simp] theorem pairsE_cons {fk fv : DE} {r : List (DE × DE)} : pairsE ((fk, fv) :: r) env S = (fk env S).bind fun x S1 => (fv env S1).bind fun y S2 => (pairsE r env S2).bind fun ps S3 => .ok ((x, y) :: ps) S3 := rfl
theorem dictR_ok {kvs : List (D × D)} (h : keysOk kvs = true) (h2 : kvs.length ≤ 15) : dictR kvs S = .ok (.ref S.length) (S ++ [.dict (mergeD [] kvs)]) := by unfold dictR; rw [if_pos ⟨h, h2⟩]
@[simp] theorem keysOk_nil : keysOk [] = true := rfl
@[simp] theorem keysOk_cons {k v : D} {r : List (D × D)} : keysOk ((k, v) :: r) = (isKey k && keysOk r) := rfl
@[simp] theorem gInK_str {tb : List (Str × D)} {z : Str} : gInK tb (.str z) S = .ok (.bl (tb.lookup z).isSome) S := rfl
@[simp] theorem gIxK_str {tb : List (Str × D)} {z : Str} : gIxK tb (.str z) S = ixR S (tb.lookup z) := by unfold gIxK ixR; rfl
@[simp] theorem gInt_int {i : Int} : gInt [.int i] S = .ok (.int i) S := rfl
theorem gInt_str {a : Str} {n : Int} (h : PySem.intText? a = some n) (h2 : a.length ≤ 640) : gInt [.str a] S = .ok (.int n) S := by
  unfold gInt; simp only [h, h2, if_true]
-- loops
theorem dFor_eq {fi : DI} {t : DG} : dFor fi t f env S = thenS (fi env S) env fun it S1 => forL it.guard t f it.items env S1 := rfl
theorem forL_nil {gd : List (Nat × O)} {t : DG} (h : Grd gd S) : forL gd t f [] env S = .nx env S := by unfold forL; rw [if_pos h]
def forR (gd : List (Nat × O)) (t : DG) (b : DS) (r : List D) : Fl → Fl
  | .nx e2 S2 => forL gd t b r e2 S2
  | .ct e2 S2 => forL gd t b r e2 S2
  | .bk e2 S2 => .nx e2 S2
  | q => q
@[simp] theorem forR_nx {gd : List (Nat × O)} {t : DG} {r : List D} {e : RL.Env} : forR gd t f r (.nx e S) = forL gd t f r e S := rfl
@[simp] theorem forR_ct {gd : List (Nat × O)} {t : DG} {r : List D} {e : RL.Env} : forR gd t f r (.ct e S) = forL gd t f r e S := rfl
@[simp] theorem forR_bk {gd : List (Nat × O)} {t : DG} {r : List D} {e : RL.Env} : forR gd t f r (.bk e S) = .nx e S := rfl
@[simp] theorem forR_rt {gd : List (Nat × O)} {t : DG} {r : List D} {d : D} : forR gd t f r (.rt d S) = .rt d S := rfl
@[simp] theorem forR_exc {gd : List (Nat × O)} {t : DG} {r : List D} {c : Str} {e : RL.Env} : forR gd t f r (.exc c e S) = .exc c e S := rfl
theorem forL_cons {gd : List (Nat × O)} {t : DG} {d : D} {r : List D} (h : Grd gd S) {e1 : RL.Env} {S1 : Sto} (ht : t d env S = .ok e1 S1) : forL gd t f (d :: r) env S = forR gd t f r (f e1 S1) := by
  rw [forL]
  dsimp only
  rw [if_pos h, ht]
  all_goals (show (match f e1 S1 with
    | .nx e2 S2 => forL gd t f r e2 S2
    | .ct e2 S2 => forL gd t f r e2 S2
    | .bk e2 S2 => .nx e2 S2
    | q => q) = _)
  all_goals unfold forR
  all_goals (generalize f e1 S1 = q)
  all_goals (cases q <;> rfl)
def forT (gd : List (Nat × O)) (t : DG) (b : DS) (r : List D) : R RL.Env → Fl
  | .ok e1 S1 => forR gd t b r (b e1 S1)
  | _ => .err
@[simp] theorem forT_ok {gd : List (Nat × O)} {t : DG} {r : List D} {e : RL.Env} : forT gd t f r (.ok e S) = forR gd t f r (f e S) := rfl
@[simp] theorem grd_none : Grd [] S := fun _ h => nomatch h
@[simp] theorem forL_nil0 {t : DG} : forL [] t f [] env S = .nx env S := forL_nil grd_none
@[simp] theorem forL_cons0 {t : DG} {d : D} {r : List D} : forL [] t f (d :: r) env S = forT [] t f r (t d env S) := by
  rw [forL]
  dsimp only
  rw [if_pos grd_none]
  unfold forT forR
  generalize t d env S = q
  cases q with
  | ok e1 S1 =>
    dsimp only
    all_goals (generalize f e1 S1 = p)
    all_goals (cases p <;> rfl)
  | exc => rfl
  | err => rfl
def rg1 (xs : List D) (S : Sto) : R ItD := match xs with
  | [.int j] => if -(2 ^ 62) ≤ j ∧ j < 2 ^ 62 then .ok ⟨rangeD 0 j.toNat, []⟩ S else .err
  | _ => .err
@[simp] theorem dRange1_eq : dRange1 fs env S = (fs env S).bind rg1 := rfl
theorem rg1_ok {j : Int} (h : 0 ≤ j) (h2 : j < 2 ^ 62) : rg1 [.int j] S = .ok ⟨rangeD 0 j.toNat, []⟩ S := by unfold rg1; exact if_pos ⟨by omega, h2⟩
def rg2 (xs : List D) (S : Sto) : R ItD := match xs with
  | [.int i, .int j] => if -(2 ^ 62) ≤ i ∧ i < 2 ^ 62 ∧ -(2 ^ 62) ≤ j ∧ j < 2 ^ 62 then .ok ⟨rangeD i (j - i).toNat, []⟩ S else .err
  | _ => .err
@[simp] theorem dRange2_eq : dRange2 fs env S = (fs env S).bind rg2 := rfl
theorem rg2_ok {i j : Int} (h0 : -(2 ^ 62) ≤ i ∧ i < 2 ^ 62) (h : -(2 ^ 62) ≤ j ∧ j < 2 ^ 62) : rg2 [.int i, .int j] S = .ok ⟨rangeD i (j - i).toNat, []⟩ S := by unfold rg2; exact if_pos ⟨h0.1, h0.2, h⟩
def rg3 (xs : List D) (S : Sto) : R ItD := match xs with
  | [.int i, .int j, .int c] => if c ≠ 0 ∧ c.natAbs < 1073741824 ∧ Builtin.Range.small i j c = true ∧ 0 ≤ Builtin.Range.rangeSize i j c then .ok ⟨rangeC i c (Builtin.Range.rangeSize i j c).toNat, []⟩ S else .err
  | _ => .err
@[simp] theorem dRange3_eq : dRange3 fs env S = (fs env S).bind rg3 := rfl
theorem grd_some {n : Nat} {o : O} (h : S[n]? = some o) : Grd [(n, o)] S := fun p hp => by obtain rfl := List.mem_singleton.mp hp; exact h
/-- a for loop whose turns all go on: an invariant -/
theorem forL_inv {gd : List (Nat × O)} {t : DG} {items : List D} (P : Nat → RL.Env → Sto → Prop) (hg : ∀ i e S, P i e S → Grd gd S)
    (turn : ∀ i d e S, items[i]? = some d → P i e S → ∃ e1 S1 e2 S2, t d e S = .ok e1 S1 ∧ (f e1 S1 = .nx e2 S2 ∨ f e1 S1 = .ct e2 S2) ∧ P (i + 1) e2 S2) (h0 : P 0 env S) :
    ∃ e S', forL gd t f items env S = .nx e S' ∧ P items.length e S' := by
  have go : ∀ (k i : Nat) (env : RL.Env) (S : Sto), i + k = items.length → P i env S → ∃ e S', forL gd t f (items.drop i) env S = .nx e S' ∧ P items.length e S' := by
    intro k
    induction k with
    | zero =>
      intro i env S hk hp
      rw [List.drop_eq_nil_of_le (by omega), forL_nil (hg i env S hp)]
      exact ⟨env, S, rfl, by rw [show items.length = i by omega]; exact hp⟩
    | succ k ih =>
      intro i env S hk hp
      have hi : i < items.length := by omega
      obtain ⟨e1, S1, e2, S2, h1, h2, h3⟩ := turn i items[i] env S (List.getElem?_eq_getElem hi) hp
      rw [List.drop_eq_getElem_cons hi, forL_cons (hg i env S hp) h1]
      obtain ⟨e, S', h4, h5⟩ := ih (i + 1) e2 S2 (by omega) h3
      refine ⟨e, S', ?_, h5⟩
      rcases h2 with h2 | h2 <;> rw [h2] <;> simpa using h4
  simpa using go items.length 0 env S (by omega) h0
@[simp] theorem dItA_eq : dItA fe env S = (fe env S).bind itAny := rfl
@[simp] theorem itAny_tup {ds : List D} : itAny (.tup ds) S = .ok ⟨ds, []⟩ S := rfl
@[simp] theorem itAny_str {z : Str} : itAny (.str z) S = .ok ⟨strs1 z, []⟩ S := rfl
@[simp] theorem itAny_scr {ds : List D} : itAny (.scr ds) S = .ok ⟨ds, []⟩ S := rfl
def itO (n : Nat) (S : Sto) : Option O → R ItD
  | some (.lst ds) => .ok ⟨ds, [(n, .lst ds)]⟩ S
  | _ => .err
@[simp] theorem itAny_ref {n : Nat} : itAny (.ref n) S = itO n S S[n]? := by unfold itAny itOf itO; rfl
@[simp] theorem itO_lst {n : Nat} {ds : List D} : itO n S (some (.lst ds)) = .ok ⟨ds, [(n, .lst ds)]⟩ S := rfl
end
end RL

namespace RL
open PySem PySem.Spec PyProof.Rows L2
/-! ### more rules to reckon with mirrors -/
section
variable {env : RL.Env} {S : Sto} {f g : DS} {fe fa fb fc : DE} {fs : DA}
@[simp] theorem gMax2_int {i j : Int} : gMax2 [.int i, .int j] S = .ok (.int (if j > i then j else i)) S := rfl
@[simp] theorem gMin2_int {i j : Int} : gMin2 [.int i, .int j] S = .ok (.int (if j < i then j else i)) S := rfl
@[simp] theorem gInt_bl {b : Bool} : gInt [.bl b] S = .ok (.int (if b then 1 else 0)) S := rfl
@[simp] theorem gTuple_tup {ds : List D} : gTuple [.tup ds] S = .ok (.tup ds) S := rfl
theorem gTuple_lst {n : Nat} {ds : List D} (h : S[n]? = some (.lst ds)) : gTuple [.ref n] S = .ok (.tup ds) S := by unfold gTuple itemsS; simp only [itemsL, h]
theorem gList_lst {n : Nat} {ds : List D} (h : S[n]? = some (.lst ds)) : gList [.ref n] S = .ok (.ref S.length) (S ++ [.lst ds]) := by unfold gList itemsS; simp only [itemsL, h]
@[simp] theorem gList_tup {ds : List D} : gList [.tup ds] S = .ok (.ref S.length) (S ++ [.lst ds]) := rfl
@[simp] theorem dZip_eq : dZip fs env S = (fs env S).bind zipOf := rfl
@[simp] theorem zipOf_tup {a b : List D} : zipOf [.tup a, .tup b] S = .ok ⟨zipD a b, []⟩ S := rfl
def tryAsR (sb : List (Str × Bool)) (i : Nat) (s : Str → DS) : Fl → Fl
  | .exc c e S1 => match sb.lookup c with
    | some true => if i < e.length then endAs i (s c (e.set i none) S1) else .err
    | some false => .exc c e S1
    | none => .err
  | r => r
theorem dTryAs_eq {sb : List (Str × Bool)} {i : Nat} {b : DS} {s : Str → DS} : dTryAs sb i b s env S = tryAsR sb i s (b env S) := by
  unfold dTryAs tryAsR; rfl
section
variable {sb : List (Str × Bool)} {i : Nat} {s : Str → DS} {e : RL.Env} {d : D} {c : Str}
@[simp] theorem tryAsR_nx : tryAsR sb i s (.nx e S) = .nx e S := rfl
@[simp] theorem tryAsR_rt : tryAsR sb i s (.rt d S) = .rt d S := rfl
theorem tryAsR_exc (h : sb.lookup c = some true) (hi : i < e.length) : tryAsR sb i s (.exc c e S) = endAs i (s c (e.set i none) S) := by
  unfold tryAsR; simp only [h, hi, if_true]
@[simp] theorem endAs_nx : endAs i (.nx e S) = .nx (e.set i none) S := rfl
@[simp] theorem endAs_rt : endAs i (.rt d S) = .rt d S := rfl
end
def tryOnR (sb : List (Str × Bool)) (s : Str → DS) : Fl → Fl
  | .exc c e S1 => match sb.lookup c with
    | some true => endOn (s c e S1)
    | some false => .exc c e S1
    | none => .err
  | r => r
theorem dTryOn_eq {sb : List (Str × Bool)} {b : DS} {s : Str → DS} : dTryOn sb b s env S = tryOnR sb s (b env S) := by
  unfold dTryOn tryOnR; rfl
section
variable {sb : List (Str × Bool)} {s : Str → DS} {e : RL.Env} {d : D} {c : Str}
@[simp] theorem tryOnR_nx : tryOnR sb s (.nx e S) = .nx e S := rfl
@[simp] theorem tryOnR_rt : tryOnR sb s (.rt d S) = .rt d S := rfl
theorem tryOnR_exc (h : sb.lookup c = some true) : tryOnR sb s (.exc c e S) = endOn (s c e S) := by
  unfold tryOnR; simp only [h]
@[simp] theorem endOn_nx : endOn (.nx e S) = .nx e S := rfl
@[simp] theorem endOn_rt : endOn (.rt d S) = .rt d S := rfl
end
theorem dIsE_ok {tab : List (Str × Bool)} {c : Str} {b : Bool} (h : tab.lookup c = some b) : dIsE tab c env S = .ok (.bl b) S := by unfold dIsE; simp only [h]
theorem dIsET_ok {tabs : List (List (Str × Bool))} {c : Str} {b : Bool} (h : orT tabs c = some b) : dIsET tabs c env S = .ok (.bl b) S := by unfold dIsET; simp only [h]
end
/-! == of plain data -/
def plN : Nat → D → Bool
  | 0, _ => false
  | _ + 1, .non => true
  | _ + 1, .int _ => true
  | _ + 1, .str x => PyData.strOk x
  | k + 1, .tup ds => ds.all (plN k)
  | _ + 1, _ => false
theorem mapM_all {α β : Type} {f : α → Option β} : ∀ {l : List α}, (∀ a ∈ l, ∃ b, f a = some b) → ∃ r, l.mapM f = some r
  | [], _ => ⟨[], rfl⟩
  | a :: l, h => by
    obtain ⟨b, e⟩ := h a List.mem_cons_self
    obtain ⟨r, e2⟩ := mapM_all fun x hx => h x (List.mem_cons_of_mem _ hx)
    exact ⟨b :: r, by rw [List.mapM_cons, e, e2]; rfl⟩
theorem plN_toP {S : Sto} : ∀ {k : Nat} {d : D}, plN k d = true → ∃ p, toP S k d = some p
  | 0, _, h => by cases h
  | k + 1, .non, _ => ⟨_, rfl⟩
  | k + 1, .int _, _ => ⟨_, rfl⟩
  | k + 1, .str x, h => ⟨.str x, by unfold toP; exact if_pos h⟩
  | k + 1, .tup ds, h => by
    obtain ⟨r, e⟩ := mapM_all (f := toP S k) (l := ds) fun a ha => plN_toP (List.all_eq_true.mp h a ha)
    exact ⟨.tuple r, by unfold toP; dsimp only; rw [e]; rfl⟩
  | k + 1, .bl _, h => by cases h
  | k + 1, .scr _, h => by cases h
  | k + 1, .ref _, h => by cases h
theorem eqvAll_plain {S : Sto} {k j : Nat} (ih : ∀ {x y : D} {p q : PyData}, plN k x = true → plN j y = true → toP S k x = some p → toP S j y = some q → PyData.eqv p q = decide (x = y)) :
    ∀ {xs ys : List D} {ps qs : List PyData}, xs.all (plN k) = true → ys.all (plN j) = true → Paired (fun a b => toP S k a = some b) xs ps → Paired (fun a b => toP S j a = some b) ys qs → PyData.eqvAll ps qs = decide (xs = ys)
  | [], [], _, _, _, _, .nil, .nil => rfl
  | [], _ :: _, _, _, _, _, .nil, .cons _ _ => rfl
  | _ :: _, [], _, _, _, _, .cons _ _, .nil => rfl
  | x :: xs, y :: ys, _, _, h1, h2, .cons a b, .cons c d => by
    rw [List.all_cons, Bool.and_eq_true] at h1 h2
    rw [PyData.eqvAll, ih h1.1 h2.1 a c, eqvAll_plain ih h1.2 h2.2 b d]
    rw [Bool.eq_iff_iff]
    simp
theorem eqv_plain {S : Sto} : ∀ {k j : Nat} {x y : D} {p q : PyData}, plN k x = true → plN j y = true → toP S k x = some p → toP S j y = some q → PyData.eqv p q = decide (x = y)
  | 0, _, _, _, _, _, h, _, _, _ => by cases h
  | _ + 1, 0, _, _, _, _, _, h, _, _ => by cases h
  | k + 1, j + 1, x, y, p, q, h1, h2, e1, e2 => by
    have sx : ∀ {z : Str} {r : PyData} {k : Nat}, plN (k + 1) (.str z) = true → toP S (k + 1) (.str z) = some r → r = .str z := fun h e => by
      unfold toP at e
      dsimp only at e
      rw [if_pos (show PyData.strOk _ = true from h)] at e
      cases e; rfl
    have tx : ∀ {ds : List D} {r : PyData} {k : Nat}, toP S (k + 1) (.tup ds) = some r → ∃ ps, ds.mapM (toP S k) = some ps ∧ r = .tuple ps := fun e => by
      unfold toP at e
      obtain ⟨ps, e1, e2⟩ := Option.map_eq_some_iff.mp e
      exact ⟨ps, e1, e2.symm⟩
    cases x with
    | bl _ => cases h1
    | scr _ => cases h1
    | ref _ => cases h1
    | non =>
      cases e1
      cases y with
      | bl _ => cases h2
      | scr _ => cases h2
      | ref _ => cases h2
      | non => cases e2; rfl
      | int _ => cases e2; rfl
      | str _ => rw [sx h2 e2]; rfl
      | tup _ => obtain ⟨_, _, rfl⟩ := tx e2; rfl
    | int i =>
      cases e1
      cases y with
      | bl _ => cases h2
      | scr _ => cases h2
      | ref _ => cases h2
      | non => cases e2; rfl
      | int j => cases e2; show (i == j) = _; rw [Bool.eq_iff_iff]; simp
      | str _ => rw [sx h2 e2]; rfl
      | tup _ => obtain ⟨_, _, rfl⟩ := tx e2; rfl
    | str a =>
      rw [sx h1 e1]
      cases y with
      | bl _ => cases h2
      | scr _ => cases h2
      | ref _ => cases h2
      | non => cases e2; rfl
      | int j => cases e2; rfl
      | str b => rw [sx h2 e2]; show (a == b) = _; rw [Bool.eq_iff_iff]; simp
      | tup _ => obtain ⟨_, _, rfl⟩ := tx e2; rfl
    | tup a =>
      obtain ⟨ps, q1, rfl⟩ := tx e1
      cases y with
      | bl _ => cases h2
      | scr _ => cases h2
      | ref _ => cases h2
      | non => cases e2; rfl
      | int j => cases e2; rfl
      | str b => rw [sx h2 e2]; rfl
      | tup b =>
        obtain ⟨qs, q2, rfl⟩ := tx e2
        rw [PyData.eqv, eqvAll_plain (fun h1 h2 => eqv_plain h1 h2) h1 h2 (mapM_some q1) (mapM_some q2)]
        rw [Bool.eq_iff_iff]
        simp
theorem eqD_plain {S : Sto} {x y : D} (hx : plN 24 x = true) (hy : plN 24 y = true) : eqD x y S = some (decide (x = y)) := by
  obtain ⟨p, e1⟩ := plN_toP (S := S) hx
  obtain ⟨q, e2⟩ := plN_toP (S := S) hy
  have h := eqv_plain hx hy e1 e2
  cases x <;> cases y <;> first | (cases hx; done) | (cases hy; done) | rfl | (unfold eqD; simp only [e1, e2, h]; done) | (unfold eqD; simp; done)
theorem gEq_plain {S : Sto} {x y : D} (hx : plN 24 x = true) (hy : plN 24 y = true) : gEq x y S = .ok (.bl (decide (x = y))) S := by unfold gEq; rw [eqD_plain hx hy]
theorem gNe_plain {S : Sto} {x y : D} (hx : plN 24 x = true) (hy : plN 24 y = true) : gNe x y S = .ok (.bl (!decide (x = y))) S := by unfold gNe; rw [eqD_plain hx hy]
end RL
namespace RL
open PySem PySem.Spec PyProof.Rows L2
theorem dLc_eq {c : Nat ⊕ List Nat} {vs : List Nat} {fi : DI} {t : DT} {f : DE} {env : RL.Env} {S : Sto} : dLc c vs fi t f env S = (fi env S).bind fun it S1 => if it.items.length ≤ lim then
  (lcL it.guard (cTarget c) t f (wipeE env vs) it.items S1).bind fun ds S2 => .ok (.ref S2.length) (S2 ++ [.lst ds]) else .err := rfl
/-- a comprehension that lays nothing -/
theorem lcL_pure {gd : List (Nat × O)} {c : CT} {t : DT} {f : DE} {env : RL.Env} {S : Sto} {p : D → Bool} {g : D → D} (hg : Grd gd S) : ∀ {items : List D},
    (∀ d ∈ items, ∃ e1, c d env = some e1 ∧ t e1 S = .ok (p d) S ∧ (p d = true → f e1 S = .ok (g d) S)) → lcL gd c t f env items S = .ok ((items.filter p).map g) S
  | [], _ => by unfold lcL; rw [if_pos hg]; rfl
  | d :: r, h => by
    obtain ⟨e1, h1, h2, h3⟩ := h d List.mem_cons_self
    have ih := lcL_pure (t := t) (f := f) (p := p) (g := g) hg (items := r) fun x hx => h x (List.mem_cons_of_mem _ hx)
    unfold lcL
    rw [if_pos hg]
    simp only [h1, h2, noEx_ok, R.bind_ok]
    by_cases hp : p d = true
    · rw [if_pos hp, h3 hp]
      simp only [noEx_ok, R.bind_ok, ih, List.filter_cons, hp, if_true, List.map_cons]
    · rw [if_neg hp]
      simp only [ih, List.filter_cons, hp]
      simp
theorem sortP_one {S : Sto} {i : Int} : sortP S [.int i] = some [.int i] := by
  unfold sortP
  have e : [D.int i].mapM (toP S 24) = some [.int i] := rfl
  rw [e]
  dsimp only
  rw [if_pos ⟨by simp [PySem.W.alike], by rfl, by simp [lim]⟩]
  unfold sortZ
  simp
theorem srcL_tup {ds : List D} {S : Sto} : srcL (.tup ds) S = some ds := rfl
theorem gSorted_ok {x : D} {S : Sto} {ds es : List D} (h1 : srcL x S = some ds) (h2 : sortP S ds = some es) : gSorted [x] S = .ok (.ref S.length) (S ++ [.lst es]) := by
  unfold gSorted; simp only [h1, Option.bind_some, h2]
end RL
namespace RL
open PySem PySem.Spec PyProof.Rows L2
/-! whole numbers: in, sorted, dicts by them -/
def srt (ns : List Int) : List Int := ns.mergeSort (fun a b => decide (a ≤ b))
theorem srt_perm (ns : List Int) : (srt ns).Perm ns := List.mergeSort_perm ..
theorem srt_pw (ns : List Int) : (srt ns).Pairwise (· ≤ ·) := by
  have h := List.pairwise_mergeSort (le := fun a b : Int => decide (a ≤ b)) (fun a b c h1 h2 => by simp at *; omega) (fun a b => by simp; omega) ns
  exact h.imp fun h => by simpa using h
theorem srt_of {ns ms : List Int} (hp : ns.Perm ms) (hs : ns.Pairwise (· ≤ ·)) : srt ms = ns :=
  ((srt_perm ms).trans hp.symm).eq_of_pairwise (le := (· ≤ ·)) (fun a b _ _ h1 h2 => by omega) (srt_pw ms) hs
theorem srt_mem {ns : List Int} {i : Int} : i ∈ srt ns ↔ i ∈ ns := (srt_perm ns).mem_iff
theorem srt_len (ns : List Int) : (srt ns).length = ns.length := (srt_perm ns).length_eq
theorem srt_congr {ns ms : List Int} (h : ns.Perm ms) : srt ns = srt ms := srt_of ((srt_perm ms).trans h.symm) (srt_pw ms)
theorem srt_app {ns : List Int} {w : Int} : srt (srt ns ++ [w]) = srt (ns ++ [w]) := srt_congr ((srt_perm ns).append_right _)
theorem srt_filter {ns : List Int} {p : Int → Bool} : srt (ns.filter p) = (srt ns).filter p := srt_of ((srt_perm ns).filter p) ((srt_pw ns).filter p)
theorem mapM_ints {S : Sto} {k : Nat} : ∀ {ns : List Int}, (ns.map D.int).mapM (toP S (k + 1)) = some (ns.map PyData.int)
  | [] => rfl
  | n :: ns => by rw [List.map_cons, List.mapM_cons, mapM_ints (ns := ns)]; rfl
theorem sortP_ints {S : Sto} {ns : List Int} (h : ns.length ≤ 16777216) : sortP S (ns.map D.int) = some ((srt ns).map D.int) := by
  unfold sortP
  rw [mapM_ints]
  dsimp only
  rw [if_pos ⟨by simp [PySem.W.alike], by unfold sortableB; rw [Bool.or_eq_true]; exact .inr (by simp [notTN]), by rw [List.length_map]; exact h⟩]
  congr 1
  unfold sortZ srt
  have e : (ns.map D.int).zip (ns.map PyData.int) = ns.map fun n => (D.int n, PyData.int n) := by
    rw [List.zip_map']
  rw [e, ← List.map_mergeSort (r := fun a b : Int => decide (a ≤ b)), List.map_map]
  · rfl
  · intro a _ b _
    have q := congrFun (congrFun (PySem.W.dataLe_int (fun n : Int => n)) a) b
    exact q.symm
theorem any_int {ms : List Int} {w : Int} : ((ms.map D.int).any fun e => eqF e (.int w)) = decide (w ∈ ms) := by
  rw [Bool.eq_iff_iff]
  simp only [List.any_map, List.any_eq_true, Function.comp, eqF_ii, beq_iff_eq, decide_eq_true_eq]
  constructor
  · rintro ⟨x, h, rfl⟩; exact h
  · intro h; exact ⟨w, h, rfl⟩
theorem flat_ints {ms : List Int} {w : Int} : (flatD (.int w) && (ms.map D.int).all flatD) = true := by simp
theorem gIn_ints {ms : List Int} {w : Int} {S : Sto} : gIn (.int w) (.tup (ms.map D.int)) S = .ok (.bl (decide (w ∈ ms))) S := by rw [gIn_tup flat_ints, any_int]
theorem gNotIn_ints {ms : List Int} {w : Int} {S : Sto} : gNotIn (.int w) (.tup (ms.map D.int)) S = .ok (.bl (!decide (w ∈ ms))) S := by rw [gNotIn_tup flat_ints, any_int]
/-- a dict by whole numbers, all True -/
def dk (ks : List Int) : List (D × D) := ks.map fun k => (.int k, .bl true)
theorem dk_len {ks : List Int} : (dk ks).length = ks.length := by unfold dk; simp
theorem dk_keys {ks : List Int} : (dk ks).map (·.1) = ks.map D.int := by unfold dk; simp
theorem dk_find {ks : List Int} {w : Int} : (findK (dk ks) (.int w)).isSome = decide (w ∈ ks) := by
  unfold findK dk
  rw [Option.isSome_map, Bool.eq_iff_iff]
  simp
theorem dk_get {ks : List Int} {w : Int} (h : w ∈ ks) : findK (dk ks) (.int w) = some (.bl true) := by
  have e : (findK (dk ks) (.int w)).isSome = true := by rw [dk_find]; simpa using h
  obtain ⟨d, hd⟩ := Option.isSome_iff_exists.mp e
  rw [hd]
  unfold findK dk at hd
  obtain ⟨p, hp, rfl⟩ := Option.map_eq_some_iff.mp hd
  obtain ⟨k, _, rfl⟩ := List.mem_map.mp (List.mem_of_find?_eq_some hp)
  rfl
theorem dk_put {ks : List Int} {w : Int} (h : w ∈ ks) : putD (dk ks) (.int w) (.bl true) = dk ks := by
  unfold putD
  rw [if_pos (by unfold dk; simp only [List.any_map, List.any_eq_true, Function.comp, decide_eq_true_eq]; exact ⟨w, h, rfl⟩)]
  unfold dk
  rw [List.map_map]
  apply List.map_congr_left
  intro k _
  simp only [Function.comp]
  split <;> rfl
theorem dk_new {ks : List Int} {w : Int} (h : w ∉ ks) : putD (dk ks) (.int w) (.bl true) = dk (ks ++ [w]) := by
  unfold putD
  rw [if_neg (by unfold dk; simp only [List.any_map, List.any_eq_true, Function.comp, decide_eq_true_eq]; rintro ⟨k, hk, e⟩; cases e; exact h hk)]
  unfold dk
  simp
theorem dk_drop {ks : List Int} {w : Int} : dropD (dk ks) (.int w) = dk (ks.filter fun k => !decide (k = w)) := by
  unfold dropD dk
  rw [List.filter_map]
  congr 1
  apply List.filter_congr
  intro k _
  simp [Function.comp]
theorem gIn_dk {ks : List Int} {w : Int} {n : Nat} {S : Sto} (h : S[n]? = some (.dict (dk ks))) : gIn (.int w) (.ref n) S = .ok (.bl (decide (w ∈ ks))) S := by
  unfold gIn inD; simp only [h]; simp [dk_find]
theorem gSorted_dk {ks : List Int} {n : Nat} {S : Sto} (h : S[n]? = some (.dict (dk ks))) (hl : ks.length ≤ 16777216) : gSorted [.ref n] S = .ok (.ref S.length) (S ++ [.lst ((srt ks).map D.int)]) := by
  refine gSorted_ok (ds := ks.map D.int) ?_ (sortP_ints hl)
  unfold srcL; simp only [h, dk_keys]
theorem gDPop_ok {kvs : List (D × D)} {k d : D} {n : Nat} {S : Sto} (h : S[n]? = some (.dict kvs)) (hk : isKey k = true) (hf : findK kvs k = some d) : gDPop (.ref n) [k] S = .ok d (S.set n (.dict (dropD kvs k))) := by
  unfold gDPop dctAt; simp only [h, hk, hf, if_true]
def popR (fo : DE) (fs : DA) (env : RL.Env) (S : Sto) (n : Nat) (S1 : Sto) : Option O → R D
  | some (.lst _) => dMt "list" gPopAt fo fs env S
  | some (.dict _) => dMt "dict" gDPop fo fs env S
  | _ => .err
def pop1R (fo : DE) (fs : DA) (env : RL.Env) (S : Sto) : R D → R D
  | .ok (.ref n) S1 => popR fo fs env S n S1 S1[n]?
  | .exc c S1 => .exc c S1
  | _ => .err
@[simp] theorem pop1R_ref {fo : DE} {fs : DA} {env : RL.Env} {S S1 : Sto} {n : Nat} : pop1R fo fs env S (.ok (.ref n) S1) = popR fo fs env S n S1 S1[n]? := rfl
@[simp] theorem dPop1_eq {fo : DE} {fs : DA} {env : RL.Env} {S : Sto} : dPop1 fo fs env S = pop1R fo fs env S (fo env S) := by
  unfold dPop1 pop1R popR
  generalize fo env S = r
  cases r with
  | ok d S1 =>
    cases d <;> first | rfl | (rename_i n; rcases h : S1[n]? with _ | o <;> first | (simp only [h]; done) | (cases o <;> simp only [h]))
  | exc c S1 => rfl
  | err => rfl
@[simp] theorem popR_lst {fo : DE} {fs : DA} {env : RL.Env} {S S1 : Sto} {n : Nat} {ds : List D} : popR fo fs env S n S1 (some (.lst ds)) = dMt "list" gPopAt fo fs env S := rfl
@[simp] theorem popR_dict {fo : DE} {fs : DA} {env : RL.Env} {S S1 : Sto} {n : Nat} {ds : List (D × D)} : popR fo fs env S n S1 (some (.dict ds)) = dMt "dict" gDPop fo fs env S := rfl
/-- == of lists of whole numbers -/
theorem toP_lst {S : Sto} {n k : Nat} {ns : List Int} (h : S[n]? = some (.lst (ns.map D.int))) : toP S (k + 2) (.ref n) = some (.list (ns.map PyData.int)) := by
  unfold toP; simp only [h, mapM_ints]; rfl
theorem eqvAll_nil {ns : List Int} : PyData.eqvAll (ns.map PyData.int) [] = decide (ns = []) := by cases ns <;> rfl
theorem gEq_nil {S : Sto} {n m : Nat} {ns : List Int} (h : S[n]? = some (.lst (ns.map D.int))) (h2 : S[m]? = some (.lst [])) : gEq (.ref n) (.ref m) S = .ok (.bl (decide (ns = []))) S := by
  have e1 := toP_lst (k := 22) h
  have e2 := toP_lst (k := 22) (ns := []) h2
  unfold gEq eqD
  simp only [e1, e2, PyData.eqv, List.map_nil, eqvAll_nil]
end RL
namespace RL
open PySem PySem.Spec PyProof.Rows L2
theorem forL_consG {t : DG} {f : DS} {d : D} {r : List D} {n : Nat} {o : O} {env : RL.Env} {S : Sto} (h : S[n]? = some o) : forL [(n, o)] t f (d :: r) env S = forT [(n, o)] t f r (t d env S) := by
  cases q : t d env S with
  | ok e1 S1 => rw [forL_cons (grd_some h) q]; rfl
  | exc c S1 => rw [forL]; dsimp only; rw [if_pos (grd_some h), q]; all_goals rfl
  | err => rw [forL]; dsimp only; rw [if_pos (grd_some h), q]; all_goals rfl
theorem forL_nilG {t : DG} {f : DS} {n : Nat} {o : O} {env : RL.Env} {S : Sto} (h : S[n]? = some o) : forL [(n, o)] t f [] env S = .nx env S := forL_nil (grd_some h)
theorem lcL_map {α : Type} {h : α → D} {gd : List (Nat × O)} {c : CT} {t : DT} {f : DE} {env : RL.Env} {S : Sto} {p : α → Bool} {g : α → D} (hg : Grd gd S) : ∀ {items : List α},
    (∀ d ∈ items, ∃ e1, c (h d) env = some e1 ∧ t e1 S = .ok (p d) S ∧ (p d = true → f e1 S = .ok (g d) S)) → lcL gd c t f env (items.map h) S = .ok ((items.filter p).map g) S
  | [], _ => by rw [List.map_nil]; unfold lcL; rw [if_pos hg]; rfl
  | d :: r, hh => by
    obtain ⟨e1, h1, h2, h3⟩ := hh d List.mem_cons_self
    have ih := lcL_map (h := h) (t := t) (f := f) (p := p) (g := g) hg (items := r) fun x hx => hh x (List.mem_cons_of_mem _ hx)
    rw [List.map_cons]
    unfold lcL
    rw [if_pos hg]
    simp only [h1, h2, noEx_ok, R.bind_ok]
    by_cases hp : p d = true
    · rw [if_pos hp, h3 hp]
      simp only [noEx_ok, R.bind_ok, ih, List.filter_cons, hp, if_true, List.map_cons]
    · rw [if_neg hp]
      simp only [ih, List.filter_cons, hp]
      simp
theorem intsOf_map : ∀ {ns : List Int}, intsOf (ns.map D.int) = some ns
  | [] => rfl
  | n :: ns => by rw [List.map_cons, intsOf, intsOf_map]; rfl
theorem gSum_ints {S : Sto} {n : Nat} {ns : List Int} (h : S[n]? = some (.lst (ns.map D.int))) : gSum [.ref n] S = .ok (.int ns.sum) S := by
  unfold gSum itemsL; simp only [h, Option.bind_some, intsOf_map]
theorem app_at {S : Sto} {l : List O} {n : Nat} {o : O} (h : S[n]? = some o) : (S ++ l)[n]? = some o := by rw [List.getElem?_append_left (List.getElem?_eq_some_iff.mp h).1]; exact h
end RL

namespace RL
open PySem PySem.Spec PyProof.Rows L2
/-! ### stores that only grow; dicts; loops seen from their ends -/
def Gr (S S' : Sto) : Prop := S.length ≤ S'.length ∧ ∀ k, k < S.length → S'[k]? = S[k]?
theorem Gr.refl (S : Sto) : Gr S S := ⟨Nat.le_refl _, fun _ _ => rfl⟩
theorem Gr.trans {S S1 S2 : Sto} (a : Gr S S1) (b : Gr S1 S2) : Gr S S2 := ⟨Nat.le_trans a.1 b.1, fun k h => (b.2 k (Nat.lt_of_lt_of_le h a.1)).trans (a.2 k h)⟩
theorem Gr.app (S : Sto) (l : List O) : Gr S (S ++ l) := ⟨by simp, fun k h => by rw [List.getElem?_append_left h]⟩
theorem Gr.at {S S' : Sto} {k : Nat} {o : O} (a : Gr S S') (h : S[k]? = some o) : S'[k]? = some o := (a.2 k (List.getElem?_eq_some_iff.mp h).1).trans h
theorem Gr.set {S S' : Sto} {n : Nat} {o : O} (a : Gr S S') (h : S.length ≤ n) : Gr S (S'.set n o) := ⟨by simp [a.1], fun k hk => by rw [List.getElem?_set_ne (by omega)]; exact a.2 k hk⟩
theorem lt_at {S : Sto} {n : Nat} {o : O} (h : S[n]? = some o) : n < S.length := (List.getElem?_eq_some_iff.mp h).1
theorem at_end {S : Sto} {o : O} : (S ++ [o])[S.length]? = some o := by simp
theorem at_set_ne {S : Sto} {n m : Nat} {o : O} (h : m ≠ n) : (S.set n o)[m]? = S[m]? := List.getElem?_set_ne (Ne.symm h)
/-! dicts -/
theorem findK_nil {k : D} : findK [] k = none := rfl
theorem findK_cons {p : D × D} {r : List (D × D)} {k : D} : findK (p :: r) k = if p.1 = k then some p.2 else findK r k := by
  unfold findK
  rw [List.find?_cons]
  by_cases h : p.1 = k <;> simp [h]
theorem findK_append {l r : List (D × D)} {k : D} (h : ∀ p ∈ l, p.1 ≠ k) : findK (l ++ r) k = findK r k := by
  induction l with
  | nil => rfl
  | cons p l ih => rw [List.cons_append, findK_cons, if_neg (h p List.mem_cons_self), ih fun q hq => h q (List.mem_cons_of_mem _ hq)]
theorem findK_none {l : List (D × D)} {k : D} : findK l k = none ↔ ∀ p ∈ l, p.1 ≠ k := by
  induction l with
  | nil => simp [findK_nil]
  | cons p l ih =>
    rw [findK_cons]
    by_cases h : p.1 = k
    · rw [if_pos h]; simp [h]
    · rw [if_neg h, ih]; simp [h]
theorem putD_new {l : List (D × D)} {k v : D} (h : ∀ p ∈ l, p.1 ≠ k) : putD l k v = l ++ [(k, v)] := by
  unfold putD
  rw [if_neg (by simp only [List.any_eq_true, decide_eq_true_eq, not_exists, not_and]; exact h)]
theorem findK_map {l : List (D × D)} {k k' v : D} : findK (l.map fun p => if p.1 = k then (p.1, v) else p) k' = if k' = k then (findK l k').map fun _ => v else findK l k' := by
  induction l with
  | nil => simp [findK_nil]
  | cons p l ih =>
    rw [List.map_cons, findK_cons, findK_cons, ih]
    by_cases h : p.1 = k
    · rw [if_pos h]
      by_cases h2 : k' = k
      · rw [h2, if_pos h, if_pos rfl, if_pos h]; rfl
      · rw [if_neg (show ¬ (p.1, v).1 = k' from fun e => h2 (e.symm.trans h)), if_neg h2, if_neg h2, if_neg (fun e => h2 (e.symm.trans h))]
    · rw [if_neg h]
      by_cases h3 : p.1 = k'
      · rw [if_pos h3, if_pos h3, if_neg (fun e => h (h3.trans e))]
      · rw [if_neg h3, if_neg h3]
theorem findK_putD {l : List (D × D)} {k k' v : D} : findK (putD l k v) k' = if k' = k then some v else findK l k' := by
  by_cases h : ∃ p ∈ l, p.1 = k
  · unfold putD
    rw [if_pos (by simpa using h), findK_map]
    by_cases h2 : k' = k
    · rw [if_pos h2, if_pos h2]
      subst h2
      cases e : findK l k' with
      | none => obtain ⟨p, hp, q⟩ := h; exact absurd q (findK_none.mp e p hp)
      | some x => rfl
    · rw [if_neg h2, if_neg h2]
  · have h' : ∀ p ∈ l, p.1 ≠ k := fun p hp e => h ⟨p, hp, e⟩
    rw [putD_new h']
    by_cases h2 : k' = k
    · rw [if_pos h2, h2, findK_append h', findK_cons, if_pos rfl]
    · rw [if_neg h2]
      cases e : findK l k' with
      | none => rw [findK_append (findK_none.mp e), findK_cons, if_neg (Ne.symm h2), findK_nil]
      | some x =>
        have : ∀ {r : List (D × D)}, findK l k' = some x → findK (l ++ r) k' = some x := by
          intro r
          clear h h' e
          induction l with
          | nil => intro e; cases e
          | cons p l ih =>
            rw [List.cons_append, findK_cons, findK_cons]
            split
            · exact id
            · exact ih
        exact this e
theorem putD_len {l : List (D × D)} {k v : D} : (putD l k v).length ≤ l.length + 1 := by
  unfold putD; split <;> simp
theorem findK_drop {l : List (D × D)} {k k' : D} : findK (dropD l k) k' = if k' = k then none else findK l k' := by
  induction l with
  | nil => simp [dropD, findK_nil]
  | cons p l ih =>
    unfold dropD at ih ⊢
    rw [List.filter_cons]
    by_cases h : p.1 = k
    · rw [if_neg (by simp [h]), ih, findK_cons]
      by_cases h2 : k' = k
      · rw [if_pos h2, if_pos h2]
      · rw [if_neg h2, if_neg h2, if_neg (fun e => h2 (e.symm.trans h))]
    · rw [if_pos (by simp [h]), findK_cons, ih, findK_cons]
      by_cases h2 : p.1 = k'
      · rw [if_pos h2, if_pos h2, if_neg (fun e => h (h2.trans e))]
      · rw [if_neg h2, if_neg h2]
theorem dropD_len {l : List (D × D)} {k : D} : (dropD l k).length ≤ l.length := List.length_filter_le ..
theorem gIn_dict {n : Nat} {kvs : List (D × D)} {k : D} {S : Sto} (h : S[n]? = some (.dict kvs)) (hk : isKey k = true) : gIn k (.ref n) S = .ok (.bl (findK kvs k).isSome) S := by
  unfold gIn inD; simp only [h, hk, if_true]
/-! loops -/
def Lp (gd : List (Nat × O)) (t : DG) (f : DS) : List D → RL.Env → Sto → RL.Env → Sto → Prop
  | [], e, S, e', S' => Grd gd S ∧ e' = e ∧ S' = S
  | d :: r, e, S, e', S' => Grd gd S ∧ ∃ e1 S1 e2 S2, t d e S = .ok e1 S1 ∧ (f e1 S1 = .nx e2 S2 ∨ f e1 S1 = .ct e2 S2) ∧ Lp gd t f r e2 S2 e' S'
theorem Lp.run {gd : List (Nat × O)} {t : DG} {f : DS} : ∀ {l : List D} {e e' : RL.Env} {S S' : Sto}, Lp gd t f l e S e' S' → forL gd t f l e S = .nx e' S'
  | [], _, _, _, _, ⟨g, h1, h2⟩ => by rw [forL_nil g, h1, h2]
  | _ :: _, _, _, _, _, ⟨g, e1, S1, e2, S2, h1, h2, h3⟩ => by
    rw [forL_cons g h1]
    rcases h2 with h2 | h2 <;> rw [h2] <;> simpa using h3.run
theorem Lp.grd {gd : List (Nat × O)} {t : DG} {f : DS} : ∀ {l : List D} {e e' : RL.Env} {S S' : Sto}, Lp gd t f l e S e' S' → Grd gd S'
  | [], _, _, _, _, ⟨g, _, h2⟩ => by rw [h2]; exact g
  | _ :: _, _, _, _, _, ⟨_, _, _, _, _, _, _, h3⟩ => h3.grd
theorem Lp.snoc {gd : List (Nat × O)} {t : DG} {f : DS} {d : D} : ∀ {l : List D} {e e' e1 e2 : RL.Env} {S S' S1 S2 : Sto}, Lp gd t f l e S e' S' → t d e' S' = .ok e1 S1 → (f e1 S1 = .nx e2 S2 ∨ f e1 S1 = .ct e2 S2) → Grd gd S2 → Lp gd t f (l ++ [d]) e S e2 S2
  | [], _, _, e1, e2, _, _, S1, S2, ⟨g, h1, h2⟩, ht, hf, hg => by subst h1; subst h2; exact ⟨g, e1, S1, e2, S2, ht, hf, hg, rfl, rfl⟩
  | _ :: _, _, _, _, _, _, _, _, _, ⟨g, a1, b1, a2, b2, h1, h2, h3⟩, ht, hf, hg => ⟨g, a1, b1, a2, b2, h1, h2, h3.snoc ht hf hg⟩
/-- a loop that goes through, or tells False at the first that is bad -/
theorem forL_all {α : Type} {h : α → D} {gd : List (Nat × O)} {t : DG} {f : DS} {p : α → Bool} {z : D} (I : RL.Env → Sto → Prop) (J : Sto → Prop) (hg : ∀ e S, I e S → Grd gd S) :
    ∀ {items : List α} {env : RL.Env} {S : Sto}, (∀ d ∈ items, ∀ e S, I e S → ∃ e1 S1, t (h d) e S = .ok e1 S1 ∧ (p d = true → ∃ e2 S2, f e1 S1 = .nx e2 S2 ∧ I e2 S2) ∧ (p d = false → ∃ S2, f e1 S1 = .rt z S2 ∧ J S2)) → I env S →
    (items.all p = true → ∃ e S', forL gd t f (items.map h) env S = .nx e S' ∧ I e S') ∧ (items.all p = false → ∃ S', forL gd t f (items.map h) env S = .rt z S' ∧ J S')
  | [], env, S, _, i => ⟨fun _ => ⟨env, S, forL_nil (hg _ _ i), i⟩, fun q => by cases q⟩
  | d :: r, env, S, hh, i => by
    obtain ⟨e1, S1, h1, h2, h3⟩ := hh d List.mem_cons_self env S i
    rw [List.map_cons, forL_cons (hg _ _ i) h1, List.all_cons]
    cases hp : p d with
    | true =>
      obtain ⟨e2, S2, h4, i2⟩ := h2 hp
      rw [h4, Bool.true_and]
      exact forL_all I J hg (fun x hx => hh x (List.mem_cons_of_mem _ hx)) i2
    | false =>
      obtain ⟨S2, h4, j⟩ := h3 hp
      rw [h4, Bool.false_and]
      exact ⟨fun q => (by cases q), fun _ => ⟨S2, rfl, j⟩⟩
theorem rangeD_at {lo : Int} {n i : Nat} {d : D} (h : (rangeD lo n)[i]? = some d) : i < n ∧ d = .int (lo + (i : Nat)) := by
  obtain ⟨h1, h2⟩ := List.getElem?_eq_some_iff.mp h
  simp [rangeD] at h1 h2
  exact ⟨h1, h2.symm⟩
theorem rangeD_len {lo : Int} {n : Nat} : (rangeD lo n).length = n := by simp [rangeD]
theorem p62 : ((2 : Int) ^ 62) = 4611686018427387904 := by rfl
theorem rg1_nat {b : Nat} {S : Sto} (h : b ≤ 100000) : rg1 [.int (b : Int)] S = .ok ⟨rangeD 0 b, []⟩ S := by
  have h1 : (b : Int) < 2 ^ 62 := by rw [p62]; omega
  have := rg1_ok (S := S) (j := (b : Int)) (Int.natCast_nonneg b) h1
  rwa [Int.toNat_natCast] at this
theorem rg2_nat {a b : Nat} {S : Sto} (h : b ≤ 100000) (h2 : a ≤ b) : rg2 [.int (a : Int), .int (b : Int)] S = .ok ⟨rangeD a (b - a), []⟩ S := by
  have h1 : -(2 ^ 62) ≤ (b : Int) ∧ (b : Int) < 2 ^ 62 := by rw [p62]; omega
  have h3 : -(2 ^ 62) ≤ (a : Int) ∧ (a : Int) < 2 ^ 62 := by rw [p62]; omega
  have := rg2_ok (S := S) (i := (a : Int)) (j := (b : Int)) h3 h1
  rwa [show ((b : Int) - (a : Int)).toNat = b - a by omega] at this
theorem enumD_get {xs : List D} {i : Nat} {d : D} (h : (enumD xs)[i]? = some d) : ∃ x, xs[i]? = some x ∧ d = .tup [.int (i : Nat), x] := by
  have hi : i < xs.length := by have := (List.getElem?_eq_some_iff.mp h).1; rwa [enumD_len] at this
  have := enumD_at (List.getElem?_eq_getElem hi)
  rw [h] at this
  exact ⟨_, List.getElem?_eq_getElem hi, Option.some.inj this⟩
theorem enumD_snoc {xs : List D} {x : D} : enumD (xs ++ [x]) = enumD xs ++ [.tup [.int (xs.length : Nat), x]] := by
  apply List.ext_getElem?
  intro i
  by_cases h : i < xs.length
  · rw [List.getElem?_append_left (by rw [enumD_len]; exact h), enumD_at (x := xs[i]) (by rw [List.getElem?_append_left h]; exact List.getElem?_eq_getElem h), enumD_at (List.getElem?_eq_getElem h)]
  · by_cases h2 : i = xs.length
    · subst h2
      rw [enumD_at (x := x) (by simp), List.getElem?_append_right (by rw [enumD_len]; omega), enumD_len]
      simp
    · rw [List.getElem?_eq_none (by rw [enumD_len]; simp; omega), List.getElem?_eq_none (by simp [enumD_len]; omega)]
@[simp] theorem dEnumA_eq {fs : DA} {env : RL.Env} {S : Sto} : dEnumA fs env S = (fs env S).bind enumAny := rfl
@[simp] theorem enumAny_tup {ds : List D} {S : Sto} : enumAny [.tup ds] S = .ok ⟨enumD ds, []⟩ S := rfl
theorem enumAny_lst {n : Nat} {ds : List D} {S : Sto} (h : S[n]? = some (.lst ds)) : enumAny [.ref n] S = .ok ⟨enumD ds, [(n, .lst ds)]⟩ S := by unfold enumAny enumOf lstG; simp only [h]
theorem dForN_dict {i n : Nat} {t : DG} {b : DS} {env : RL.Env} {S : Sto} {kvs : List (D × D)} (h1 : env[i]? = some (some (.ref n))) (h2 : S[n]? = some (.dict kvs)) : dForN i t b env S = unlockF n kvs (forL [(n, .fd kvs)] t b (kvs.map (·.1)) env (S.set n (.fd kvs))) := by
  unfold dForN dForD; simp only [h1, h2]
theorem dForN_lst {i n : Nat} {t : DG} {b : DS} {env : RL.Env} {S : Sto} {ds : List D} (h1 : env[i]? = some (some (.ref n))) (h2 : S[n]? = some (.lst ds)) : dForN i t b env S = forL [(n, .lst ds)] t b ds env S := by
  unfold dForN; simp only [h1, h2]; rw [dFor_eq]; simp [h1, h2, thenS]
def whR (c : DT) (b : DS) (n : Nat) : Fl → Fl
  | .nx e S2 => dWhileN c b n e S2
  | .ct e S2 => dWhileN c b n e S2
  | .bk e S2 => .nx e S2
  | r => r
theorem dWhileN_eq {c : DT} {b : DS} {n : Nat} {env : RL.Env} {S : Sto} : dWhileN c b (n + 1) env S = thenS (c env S) env fun k S1 => if k = true then whR c b n (b env S1) else .nx env S1 := by
  rw [dWhileN]; unfold whR; rfl
@[simp] theorem whR_nx {c : DT} {b : DS} {n : Nat} {e : RL.Env} {S : Sto} : whR c b n (.nx e S) = dWhileN c b n e S := rfl
end RL

namespace LK
open PySem PySem.Spec PyProof.Rows L2 RL
def c_FIRST_BEGIN : D := (.int (-2))
def c_FIRST_END : D := (.int (-1))
noncomputable def l_last_written_0 : DS :=
  (dSeq (dAsg (dBin gIx (dV 0) (dV 4)) (sTup 2 (sCons (sName 5) (sCons (sName 6) sNil))))
  (dIf (dAnd (dT (dBin gNotN (dV 6) (dC .non))) (dAnd (dT (dBin gLt (dV 6) (dV 1))) (dOr (dT (dBin gIsN (dV 3) (dC .non))) (dT (dBin gGt (dV 5) (dV 3)))))) (dSeq (dSet 3 (dV 5))
  (dSet 2 (dV 4))) dSkip))
noncomputable def b_last_written : DS :=
  (dSeq (dSet 2 (dC (.int 0)))
  (dSeq (dSet 3 (dC .non))
  (dSeq (dForN 0 (sName 4) l_last_written_0)
  (dRet (dV 2)))))
noncomputable def m_last_written : Fn := runB 7 b_last_written
noncomputable def l_written_beside_0 : DS :=
  (dSeq (dAsg (dBin gIx (dV 0) (dV 4)) (sTup 2 (sCons (sName 5) (sCons (sName 6) sNil))))
  (dIf (dAnd (dT (dBin gLt (dV 5) (dV 2))) (dOr (dT (dBin gIsN (dV 6) (dC .non))) (dT (dBin gGt (dV 6) (dV 1))))) (dDrop (dMt "list" gAppend (dV 3) (dConsA (dV 4) dNilA))) dSkip))
noncomputable def b_written_beside : DS :=
  (dSeq (dSet 3 (dLst dNilA))
  (dSeq (dForN 0 (sName 4) l_written_beside_0)
  (dRet (dV 3))))
noncomputable def m_written_beside : Fn := runB 7 b_written_beside
noncomputable def l_deeds_0 : DS :=
  (dIf (dT (dBin gEq (dBin gIx (dV 4) (dC (.int 0))) (dC (.str "begin")))) (dSeq (dAsg (dCB gLen (dConsA (dV 1) dNilA)) (sSub (dV 2) (dBin gIx (dV 4) (dC (.int 1)))))
  (dDrop (dMt "list" gAppend (dV 1) (dConsA (dTup (dConsA (dBin gIx (dV 4) (dC (.int 1))) (dConsA (dBin gIx (dV 4) (dC (.int 2))) (dConsA (dBin gIx (dV 4) (dC (.int 3))) (dConsA (dBin gIx (dV 4) (dC (.int 4))) (dConsA (dC .non) (dConsA (dV 3) (dConsA (dC .non) dNilA)))))))) dNilA)))) (dSeq (dSet 5 (dBin gIx (dV 2) (dBin gIx (dV 4) (dC (.int 1)))))
  (dAsg (dBin gAdd (dSl gSl (dBin gIx (dV 1) (dV 5)) dNoPart (dPart (dC (.int 4)))) (dTup (dConsA (dBin gIx (dV 4) (dC (.int 2))) (dConsA (dBin gIx (dBin gIx (dV 1) (dV 5)) (dC (.int 5))) (dConsA (dV 3) dNilA))))) (sSub (dV 1) (dV 5)))))
noncomputable def b_deeds : DS :=
  (dSeq (dSet 1 (dLst dNilA))
  (dSeq (dSet 2 dDict0)
  (dSeq (dFor (dEnumA (dConsA (dBin gIx (dV 0) (dC (.int 1))) dNilA)) (sTup 2 (sCons (sName 3) (sCons (sName 4) sNil))) l_deeds_0)
  (dRet (dV 1)))))
noncomputable def m_deeds : Fn := runB 6 b_deeds
noncomputable def l_plain_deeds_0 : DS :=
  (dIf (dT (dBin gEq (dV 6) (dC (.str "write")))) (dSeq (dIf (dOr (dT (dBin gIn (dV 7) (dV 1))) (dAnd (dT (dBin gNotN (dV 10) (dC .non))) (dT (dBin gNe (dV 8) (dC (.str "ok")))))) (dRaise "NotPlain") dSkip)
  (dAsg (dTup (dConsA (dV 9) (dConsA (dV 10) dNilA))) (sSub (dV 1) (dV 7)))) (dIf (dT (dBin gNotN (dV 10) (dC .non))) (dSeq (dIf (dT (dUn (gIsi "str") (dV 8))) (dRaise "NotPlain") dSkip)
  (dDrop (dMt "list" gAppend (dV 2) (dConsA (dTup (dConsA (dV 3) (dConsA (dV 8) (dConsA (dV 9) (dConsA (dV 10) dNilA))))) dNilA)))) dSkip))
noncomputable def b_plain_deeds : DS :=
  (dSeq (dIf (dOr (dT (dBin gNe (dCB gLen (dConsA (dBin gIx (dV 0) (dC (.int 0))) dNilA)) (dC (.int 1)))) (dT (dBin gNe (dBin gIx (dBin gIx (dBin gIx (dV 0) (dC (.int 0))) (dC (.int 0))) (dC (.int 1))) (dC (.str "register"))))) (dRaise "NotPlain") dSkip)
  (dSeq (dSet 1 (dDict [((dC (.int 0)), (dTup (dConsA (dC c_FIRST_BEGIN) (dConsA (dC c_FIRST_END) dNilA))))]))
  (dSeq (dSet 2 (dLst dNilA))
  (dSeq (dFor (dEnumA (dConsA (dCall 1 m_deeds (dConsA (dV 0) dNilA)) dNilA)) (sTup 2 (sCons (sName 3) (sCons (sTup 7 (sCons (sName 4) (sCons (sName 5) (sCons (sName 6) (sCons (sName 7) (sCons (sName 8) (sCons (sName 9) (sCons (sName 10) sNil)))))))) sNil))) l_plain_deeds_0)
  (dRet (dTup (dConsA (dV 1) (dConsA (dV 2) dNilA))))))))
noncomputable def m_plain_deeds : Fn := runB 11 b_plain_deeds
noncomputable def l_written_by_one_0 : DS :=
  (dIf (dT (dBin gEq (dBin gIx (dV 4) (dC (.int 2))) (dC (.str "write")))) (dAsg (dC (.bl true)) (sSub (dV 3) (dBin gIx (dV 4) (dC (.int 0))))) dSkip)
noncomputable def b_written_by_one : DS :=
  (dSeq (dAsg (dCall 1 m_plain_deeds (dConsA (dV 0) dNilA)) (sTup 2 (sCons (sName 1) (sCons (sName 2) sNil))))
  (dSeq (dSet 3 dDict0)
  (dSeq (dFor (dItA (dCall 1 m_deeds (dConsA (dV 0) dNilA))) (sName 4) l_written_by_one_0)
  (dSeq (dIf (dT (dBin gGt (dCB gLen (dConsA (dV 3) dNilA)) (dC (.int 1)))) (dRaise "NotPlain") dSkip)
  (dRet (dTup (dConsA (dV 1) (dConsA (dV 2) dNilA))))))))
noncomputable def m_written_by_one : Fn := runB 5 b_written_by_one
noncomputable def l_is_regular_0 : DS :=
  (dIf (dAnd (dT (dBin gNe (dV 4) (dCall 2 m_last_written (dConsA (dV 1) (dConsA (dV 5) dNilA))))) (dT (dBin gNotIn (dV 4) (dCall 3 m_written_beside (dConsA (dV 1) (dConsA (dV 5) (dConsA (dV 6) dNilA))))))) (dRet (dC (.bl false))) dSkip)
noncomputable def b_is_regular : DS :=
  (dSeq (dAsg (dCall 1 m_written_by_one (dConsA (dV 0) dNilA)) (sTup 2 (sCons (sName 1) (sCons (sName 2) sNil))))
  (dSeq (dFor (dItA (dV 2)) (sTup 4 (sCons (sName 3) (sCons (sName 4) (sCons (sName 5) (sCons (sName 6) sNil))))) l_is_regular_0)
  (dRet (dC (.bl true)))))
noncomputable def m_is_regular : Fn := runB 7 b_is_regular
noncomputable def l_is_safe_0 : DS :=
  (dIf (dAnd (dT (dBin gEq (dCall 3 m_written_beside (dConsA (dV 1) (dConsA (dV 5) (dConsA (dV 6) dNilA)))) (dLst dNilA))) (dT (dBin gNe (dV 4) (dCall 2 m_last_written (dConsA (dV 1) (dConsA (dV 5) dNilA)))))) (dRet (dC (.bl false))) dSkip)
noncomputable def b_is_safe : DS :=
  (dSeq (dAsg (dCall 1 m_written_by_one (dConsA (dV 0) dNilA)) (sTup 2 (sCons (sName 1) (sCons (sName 2) sNil))))
  (dSeq (dFor (dItA (dV 2)) (sTup 4 (sCons (sName 3) (sCons (sName 4) (sCons (sName 5) (sCons (sName 6) sNil))))) l_is_safe_0)
  (dRet (dC (.bl true)))))
noncomputable def m_is_safe : Fn := runB 7 b_is_safe
noncomputable def l_turn_about_0 : DS :=
  (dIf (dAnd (dT (dBin gLt (dV 7) (dV 10))) (dT (dBin gLt (dBin gIx (dBin gIx (dV 1) (dV 9)) (dC (.int 0))) (dBin gIx (dBin gIx (dV 1) (dV 5)) (dC (.int 0)))))) (dRet (dTup (dConsA (dV 4) (dConsA (dV 8) dNilA)))) dSkip)
noncomputable def l_turn_about_1 : DS :=
  (dForN 3 (sTup 4 (sCons (sName 8) (sCons (sName 9) (sCons (sName 10) (sCons (sName 11) sNil))))) l_turn_about_0)
noncomputable def b_turn_about : DS :=
  (dSeq (dAsg (dCall 1 m_written_by_one (dConsA (dV 0) dNilA)) (sTup 2 (sCons (sName 1) (sCons (sName 2) sNil))))
  (dSeq (dSet 3 (dLc (Sum.inl 12) [12] (dItA (dV 2)) (dT (dBin gIn (dBin gIx (dV 12) (dC (.int 1))) (dV 1))) (dV 12)))
  (dSeq (dForN 3 (sTup 4 (sCons (sName 4) (sCons (sName 5) (sCons (sName 6) (sCons (sName 7) sNil))))) l_turn_about_1)
  (dRet (dC .non)))))
noncomputable def m_turn_about : Fn := runB 13 b_turn_about
noncomputable def b_law_asked : DS :=
  (dSeq (dIf (dT (dBin gEq (dV 1) (dC (.int 0)))) (dRet (dCall 1 m_is_regular (dConsA (dV 0) dNilA))) dSkip)
  (dSeq (dIf (dT (dBin gEq (dV 1) (dC (.int 1)))) (dRet (dCall 1 m_is_safe (dConsA (dV 0) dNilA))) dSkip)
  (dRet (dCall 1 m_turn_about (dConsA (dV 0) dNilA)))))
noncomputable def m_law_asked : Fn := runB 2 b_law_asked
noncomputable def b_law_cell_at : DS :=
  (dSeq (dIf (dT (dBin gLt (dV 1) (dCB gLen (dConsA (dV 0) dNilA)))) (dRet (dBin gIx (dV 0) (dV 1))) dSkip)
  (dRet (dC (.int 0))))
noncomputable def m_law_cell_at : Fn := runB 2 b_law_cell_at
noncomputable def b_law_refused : DS :=
  (dSeq (dSet 2 (dC (.bl false)))
  (dSeq (dTryAs [("NotPlain", true)] 3 (dDrop (dCall 2 m_law_asked (dConsA (dV 0) (dConsA (dV 1) dNilA)))) (fun c => (dSeq (dSet 2 (dAndV (dIsE [("NotPlain", true)] c) (dIsE [("NotPlain", true)] c)))
  (dSeq (dSet 2 (dAndV (dV 2) (dNotV (dIsET [[("NotPlain", false)], [("NotPlain", false)], [("NotPlain", false)], [("NotPlain", false)], [("NotPlain", false)], [("NotPlain", false)], [("NotPlain", false)]] c))))
  (dSet 2 (dAndV (dV 2) (dNotV (dIsET [[("NotPlain", false)], [("NotPlain", false)]] c))))))))
  (dRet (dV 2))))
noncomputable def m_law_refused : Fn := runB 4 b_law_refused
noncomputable def b_law_stream : DS :=
  (dSeq (dSet 2 (dBin gMod (dV 0) (dC (.int 536870909))))
  (dRet (dLst (dConsA (dV 0) (dConsA (dV 1) (dConsA (dBin gMod (dBin gAdd (dBin gMul (dBin gMod (dBin gMul (dV 2) (dV 2)) (dC (.int 536870909))) (dBin gAdd (dV 2) (dC (.int 7)))) (dC (.int 13))) (dC (.int 536870909))) dNilA))))))
noncomputable def m_law_stream : Fn := runB 3 b_law_stream
noncomputable def b_law_take : DS :=
  (dSeq (dIf (dAnd (dT (dBin gEq (dBin gIx (dV 0) (dC (.int 1))) (dC (.int 0)))) (dT (dBin gNotIn (dBin gIx (dV 0) (dC (.int 0))) (dTup (dConsA (dC (.int 0)) (dConsA (dUn gNeg (dC (.int 1))) dNilA)))))) (dSeq (dSet 2 (dBin gMod (dBin gIx (dV 0) (dC (.int 0))) (dV 1)))
  (dSeq (dAsg (dBin gDiv (dBin gIx (dV 0) (dC (.int 0))) (dV 1)) (sSub (dV 0) (dC (.int 0))))
  (dRet (dV 2)))) dSkip)
  (dSeq (dAsg (dBin gMod (dBin gMul (dBin gAdd (dBin gIx (dV 0) (dC (.int 2))) (dC (.int 7919))) (dBin gAdd (dBin gIx (dV 0) (dC (.int 2))) (dC (.int 104729)))) (dC (.int 536870909))) (sSub (dV 0) (dC (.int 2))))
  (dRet (dBin gMod (dBin gAdd (dBin gMul (dBin gIx (dV 0) (dC (.int 2))) (dC (.int 48271))) (dC (.int 11))) (dV 1)))))
noncomputable def m_law_take : Fn := runB 3 b_law_take
noncomputable def b_law_worth : DS :=
  (dSeq (dSet 1 (dCall 2 m_law_take (dConsA (dV 0) (dConsA (dC (.int 4)) dNilA))))
  (dSeq (dIf (dT (dBin gEq (dV 1) (dC (.int 0)))) (dRet (dBin gSub (dCall 2 m_law_take (dConsA (dV 0) (dConsA (dBin gAdd (dBin gMul (dC (.int 2)) (dBin gPow (dC (.int 10)) (dC (.int 9)))) (dC (.int 1))) dNilA))) (dBin gPow (dC (.int 10)) (dC (.int 9))))) dSkip)
  (dSeq (dIf (dT (dBin gEq (dV 1) (dC (.int 1)))) (dRet (dBin gIx (dLst (dConsA (dBin gPow (dC (.int 10)) (dC (.int 9))) (dConsA (dUn gNeg (dBin gPow (dC (.int 10)) (dC (.int 9)))) (dConsA (dBin gSub (dBin gPow (dC (.int 10)) (dC (.int 9))) (dC (.int 1))) (dConsA (dBin gSub (dC (.int 1)) (dBin gPow (dC (.int 10)) (dC (.int 9)))) dNilA))))) (dCall 2 m_law_take (dConsA (dV 0) (dConsA (dC (.int 4)) dNilA))))) dSkip)
  (dRet (dBin gSub (dCall 2 m_law_take (dConsA (dV 0) (dConsA (dC (.int 7)) dNilA))) (dC (.int 3)))))))
noncomputable def m_law_worth : Fn := runB 2 b_law_worth
noncomputable def b_law_answer : DS :=
  (dSeq (dSet 2 (dCall 2 m_law_take (dConsA (dV 0) (dConsA (dC (.int 9)) dNilA))))
  (dSeq (dIf (dT (dBin gEq (dV 2) (dC (.int 8)))) (dRet (dBin gIx (dLst (dConsA (dCall 1 m_law_worth (dConsA (dV 0) dNilA)) (dConsA (dCall 1 m_law_worth (dConsA (dV 0) dNilA)) (dConsA (dBin gPow (dC (.int 10)) (dC (.int 12))) (dConsA (dUn gNeg (dBin gPow (dC (.int 10)) (dC (.int 12)))) (dConsA (dBin gAdd (dBin gPow (dC (.int 10)) (dC (.int 9))) (dC (.int 1))) dNilA)))))) (dCall 2 m_law_take (dConsA (dV 0) (dConsA (dC (.int 5)) dNilA))))) dSkip)
  (dSeq (dSet 3 (dBin gIx (dLst (dConsA (dC (.int 0)) (dConsA (dC (.int 0)) (dConsA (dC (.int 0)) (dConsA (dC (.int 0)) (dConsA (dC (.int 1)) (dConsA (dC (.int 1)) (dConsA (dC (.int 2)) (dConsA (dCall 2 m_law_take (dConsA (dV 0) (dConsA (dC (.int 24)) dNilA))) dNilA))))))))) (dV 2)))
  (dRet (dBin gIx (dV 1) (dCB gMax2 (dConsA (dC (.int 0)) (dConsA (dBin gSub (dBin gSub (dCB gLen (dConsA (dV 1) dNilA)) (dC (.int 1))) (dV 3)) dNilA))))))))
noncomputable def m_law_answer : Fn := runB 4 b_law_answer
noncomputable def l_law_fresh_0 : DS :=
  (dSeq (dSet 2 (dBin gAdd (dV 2) (dC (.int 1))))
  (dIf (dT (dBin gGt (dV 2) (dBin gPow (dC (.int 10)) (dC (.int 9))))) (dSet 2 (dUn gNeg (dBin gPow (dC (.int 10)) (dC (.int 9))))) dSkip))
noncomputable def b_law_fresh : DS :=
  (dSeq (dSet 2 (dCall 1 m_law_worth (dConsA (dV 0) dNilA)))
  (dSeq (dWhileN (dT (dBin gIn (dV 2) (dV 1))) l_law_fresh_0 1000000)
  (dSeq (dAsg (dC (.bl true)) (sSub (dV 1) (dV 2)))
  (dRet (dV 2)))))
noncomputable def m_law_fresh : Fn := runB 3 b_law_fresh
noncomputable def l_law_events_0 : DS :=
  (dSeq (dSet 11 (dCall 2 m_law_stream (dConsA (dBin gDiv (dV 10) (dC (.int 2))) (dConsA (dV 1) dNilA))))
  (dSeq (dSet 12 (dCall 2 m_law_take (dConsA (dV 11) (dConsA (dV 4) dNilA))))
  (dIf (dT (dBin gIn (dV 12) (dV 8))) (dSeq (dSet 13 (dC (.str "ok")))
  (dSeq (dIf (dT (dBin gEq (dPop1 (dV 8) (dConsA (dV 12) dNilA)) (dC (.str "read")))) (dSet 13 (dCall 2 m_law_answer (dConsA (dV 11) (dConsA (dV 7) dNilA)))) dSkip)
  (dDrop (dMt "list" gAppend (dV 9) (dConsA (dTup (dConsA (dC (.str "end")) (dConsA (dV 12) (dConsA (dV 13) dNilA)))) dNilA))))) (dIf (dAnd (dT (dBin gEq (dV 12) (dV 5))) (dT (dBin gGt (dCall 2 m_law_take (dConsA (dV 11) (dConsA (dC (.int 5)) dNilA))) (dC (.int 0))))) (dSeq (dDrop (dMt "list" gAppend (dV 7) (dConsA (dCall 2 m_law_fresh (dConsA (dV 11) (dConsA (dV 6) dNilA))) dNilA)))
  (dSeq (dAsg (dC (.str "write")) (sSub (dV 8) (dV 12)))
  (dDrop (dMt "list" gAppend (dV 9) (dConsA (dTup (dConsA (dC (.str "begin")) (dConsA (dV 12) (dConsA (dV 3) (dConsA (dC (.str "write")) (dConsA (dBin gIx (dV 7) (dUn gNeg (dC (.int 1)))) dNilA)))))) dNilA))))) (dSeq (dAsg (dC (.str "read")) (sSub (dV 8) (dV 12)))
  (dDrop (dMt "list" gAppend (dV 9) (dConsA (dTup (dConsA (dC (.str "begin")) (dConsA (dV 12) (dConsA (dV 3) (dConsA (dC (.str "read")) (dConsA (dC .non) dNilA)))))) dNilA))))))))
noncomputable def b_law_events : DS :=
  (dSeq (dSet 4 (dBin gAdd (dC (.int 2)) (dCall 2 m_law_take (dConsA (dV 2) (dConsA (dC (.int 5)) dNilA)))))
  (dSeq (dSet 5 (dCall 2 m_law_take (dConsA (dV 2) (dConsA (dV 4) dNilA))))
  (dSeq (dSet 6 (dDict [((dC (.int 0)), (dC (.bl true)))]))
  (dSeq (dSet 7 (dLst (dConsA (dC (.int 0)) dNilA)))
  (dSeq (dSet 8 dDict0)
  (dSeq (dSet 9 (dLst dNilA))
  (dSeq (dFor (dItA (dV 0)) (sName 10) l_law_events_0)
  (dRet (dV 9)))))))))
noncomputable def m_law_events : Fn := runB 14 b_law_events
noncomputable def l_law_name_0 : DS :=
  (dSet 2 (dBin gAdd (dV 2) (dBin gIx (dV 1) (dCall 2 m_law_take (dConsA (dV 0) (dConsA (dC (.int 26)) dNilA))))))
noncomputable def b_law_name : DS :=
  (dSeq (dSet 1 (dC (.str "abcdefghijklmnopqrstuvwxyz")))
  (dSeq (dSet 2 (dC (.str "")))
  (dSeq (dFor (dRange1 (dConsA (dBin gAdd (dC (.int 1)) (dCall 2 m_law_take (dConsA (dV 0) (dConsA (dC (.int 8)) dNilA)))) dNilA)) (sName 3) l_law_name_0)
  (dRet (dV 2)))))
noncomputable def m_law_name : Fn := runB 4 b_law_name
noncomputable def b_law_tale : DS :=
  (dSeq (dSet 2 (dCall 2 m_law_cell_at (dConsA (dV 0) (dConsA (dC (.int 0)) dNilA))))
  (dSeq (dSet 3 (dCall 2 m_law_stream (dConsA (dBin gDiv (dV 2) (dC (.int 2))) (dConsA (dBin gMod (dV 2) (dC (.int 2))) dNilA))))
  (dSeq (dSet 4 (dCall 1 m_law_name (dConsA (dV 3) dNilA)))
  (dRet (dTup (dConsA (dTup (dConsA (dTup (dConsA (dV 4) (dConsA (dC (.str "register")) dNilA))) dNilA)) (dConsA (dCB gTuple (dConsA (dCall 4 m_law_events (dConsA (dSl gSl (dV 0) (dPart (dC (.int 1))) (dPart (dBin gAdd (dC (.int 1)) (dV 1)))) (dConsA (dBin gMod (dV 2) (dC (.int 2))) (dConsA (dV 3) (dConsA (dV 4) dNilA))))) dNilA)) dNilA)))))))
noncomputable def m_law_tale : Fn := runB 5 b_law_tale
noncomputable def l_law_end_of_0 : DS :=
  (dIf (dT (dBin gEq (dBin gIx (dBin gIx (dV 0) (dV 2)) (dC (.int 1))) (dBin gIx (dBin gIx (dV 0) (dV 1)) (dC (.int 1))))) (dRet (dV 2)) dSkip)
noncomputable def b_law_end_of : DS :=
  (dSeq (dFor (dRange2 (dConsA (dBin gAdd (dV 1) (dC (.int 1))) (dConsA (dCB gLen (dConsA (dV 0) dNilA)) dNilA))) (sName 2) l_law_end_of_0)
  (dRet (dC .non)))
noncomputable def m_law_end_of : Fn := runB 3 b_law_end_of
noncomputable def b_law_answered : DS :=
  (dSeq (dSet 3 (dCall 2 m_law_end_of (dConsA (dV 0) (dConsA (dV 1) dNilA))))
  (dSeq (dSet 4 (dCB gList (dConsA (dV 0) dNilA)))
  (dSeq (dIf (dT (dBin gIsN (dV 3) (dC .non))) (dDrop (dMt "list" gAppend (dV 4) (dConsA (dTup (dConsA (dC (.str "end")) (dConsA (dBin gIx (dBin gIx (dV 0) (dV 1)) (dC (.int 1))) (dConsA (dV 2) dNilA)))) dNilA))) (dAsg (dTup (dConsA (dC (.str "end")) (dConsA (dBin gIx (dBin gIx (dV 0) (dV 1)) (dC (.int 1))) (dConsA (dV 2) dNilA)))) (sSub (dV 4) (dV 3))))
  (dRet (dV 4)))))
noncomputable def m_law_answered : Fn := runB 5 b_law_answered
noncomputable def b_law_begins : DS :=
  (dRet (dLc (Sum.inl 2) [2] (dRange1 (dConsA (dCB gLen (dConsA (dV 0) dNilA)) dNilA)) (dAnd (dT (dBin gEq (dBin gIx (dBin gIx (dV 0) (dV 2)) (dC (.int 0))) (dC (.str "begin")))) (dT (dBin gEq (dBin gIx (dBin gIx (dV 0) (dV 2)) (dC (.int 3))) (dV 1)))) (dV 2)))
noncomputable def m_law_begins : Fn := runB 3 b_law_begins
noncomputable def b_law_closed : DS :=
  (dSeq (dSet 2 (dCB gList (dConsA (dV 0) dNilA)))
  (dSeq (dSet 3 (dLc (Sum.inl 4) [4] (dItA (dV 0)) (dT (dBin gEq (dBin gIx (dV 4) (dC (.int 1))) (dV 1))) (dV 4)))
  (dSeq (dIf (dAnd (dT (dBin gNe (dV 3) (dLst dNilA))) (dT (dBin gEq (dBin gIx (dBin gIx (dV 3) (dUn gNeg (dC (.int 1)))) (dC (.int 0))) (dC (.str "begin"))))) (dDrop (dMt "list" gAppend (dV 2) (dConsA (dTup (dConsA (dC (.str "end")) (dConsA (dV 1) (dConsA (dBin gIx (dLst (dConsA (dC (.str "ok")) (dConsA (dC (.int 0)) dNilA))) (dCB gInt (dConsA (dBin gEq (dBin gIx (dBin gIx (dV 3) (dUn gNeg (dC (.int 1)))) (dC (.int 3))) (dC (.str "read"))) dNilA))) dNilA)))) dNilA))) dSkip)
  (dRet (dV 2)))))
noncomputable def m_law_closed : Fn := runB 5 b_law_closed
noncomputable def b_law_beside : DS :=
  (dSeq (dAsg (dV 0) (sTup 2 (sCons (sName 2) (sCons (sName 3) sNil))))
  (dSeq (dSet 4 (dBin gIx (dBin gIx (dV 2) (dC (.int 0))) (dC (.int 0))))
  (dSeq (dSet 5 (dSl gSl (dBin gIx (dLst (dConsA (dC (.str "a")) (dConsA (dC (.str "zz")) (dConsA (dBin gAdd (dV 4) (dC (.str "q"))) (dConsA (dBin gAdd (dC (.str "x")) (dV 4)) dNilA))))) (dCall 2 m_law_take (dConsA (dV 1) (dConsA (dC (.int 4)) dNilA)))) dNoPart (dPart (dC (.int 8)))))
  (dSeq (dIf (dT (dBin gEq (dV 5) (dV 4))) (dSet 5 (dBin gAdd (dSl gSl (dV 4) dNoPart (dPart (dUn gNeg (dC (.int 1))))) (dBin gIx (dLst (dConsA (dC (.str "b")) (dConsA (dC (.str "c")) dNilA))) (dCB gInt (dConsA (dBin gEq (dBin gIx (dV 4) (dUn gNeg (dC (.int 1)))) (dC (.str "b"))) dNilA))))) dSkip)
  (dSeq (dSet 6 (dBin gIx (dLst (dConsA (dC (.str "register")) (dConsA (dC (.str "counter")) (dConsA (dC (.str "queue")) (dConsA (dC (.str "set")) (dConsA (dC (.str "cell")) dNilA)))))) (dCall 2 m_law_take (dConsA (dV 1) (dConsA (dC (.int 5)) dNilA)))))
  (dSeq (dSet 7 (dLst (dConsA (dTup (dConsA (dC (.str "read")) (dConsA (dC .non) dNilA))) (dConsA (dTup (dConsA (dC (.str "add")) (dConsA (dC (.int 4)) dNilA))) (dConsA (dTup (dConsA (dC (.str "put")) (dConsA (dC (.int 4)) dNilA))) (dConsA (dTup (dConsA (dC (.str "has")) (dConsA (dC (.int 4)) dNilA))) (dConsA (dTup (dConsA (dC (.str "swap")) (dConsA (dTup (dConsA (dC (.int 0)) (dConsA (dC (.int 4)) dNilA))) dNilA))) dNilA)))))))
  (dSeq (dAsg (dBin gIx (dV 7) (dMt "list" gIndex (dLst (dConsA (dC (.str "register")) (dConsA (dC (.str "counter")) (dConsA (dC (.str "queue")) (dConsA (dC (.str "set")) (dConsA (dC (.str "cell")) dNilA)))))) (dConsA (dV 6) dNilA))) (sTup 2 (sCons (sName 8) (sCons (sName 9) sNil))))
  (dSeq (dSet 10 (dCB gList (dConsA (dV 3) dNilA)))
  (dSeq (dIf (dT (dBin gEq (dCall 2 m_law_take (dConsA (dV 1) (dConsA (dC (.int 2)) dNilA))) (dC (.int 1)))) (dSeq (dSet 10 (dBin gAdd (dCall 2 m_law_closed (dConsA (dV 10) (dConsA (dC (.int 0)) dNilA))) (dLst (dConsA (dTup (dConsA (dC (.str "begin")) (dConsA (dC (.int 0)) (dConsA (dV 5) (dConsA (dV 8) (dConsA (dV 9) dNilA)))))) dNilA))))
  (dIf (dT (dBin gEq (dCall 2 m_law_take (dConsA (dV 1) (dConsA (dC (.int 2)) dNilA))) (dC (.int 1)))) (dDrop (dMt "list" gAppend (dV 10) (dConsA (dTup (dConsA (dC (.str "end")) (dConsA (dC (.int 0)) (dConsA (dBin gIx (dLst (dConsA (dC (.str "ok")) (dConsA (dC (.int 0)) dNilA))) (dCB gInt (dConsA (dBin gNe (dV 8) (dC (.str "put"))) dNilA))) dNilA)))) dNilA))) dSkip)) dSkip)
  (dRet (dTup (dConsA (dCB gTuple (dConsA (dCB gSorted (dConsA (dLst (dConsA (dBin gIx (dV 2) (dC (.int 0))) (dConsA (dTup (dConsA (dV 5) (dConsA (dV 6) dNilA))) dNilA))) dNilA)) dNilA)) (dConsA (dV 10) dNilA)))))))))))))
noncomputable def m_law_beside : Fn := runB 11 b_law_beside
noncomputable def b_law_more : DS :=
  (dSeq (dSet 5 (dBin gAdd (dCall 2 m_law_closed (dConsA (dV 0) (dConsA (dV 2) dNilA))) (dLst (dConsA (dTup (dConsA (dC (.str "begin")) (dConsA (dV 2) (dConsA (dV 1) (dConsA (dC (.str "write")) (dConsA (dV 3) dNilA)))))) dNilA))))
  (dSeq (dIf (dT (dV 4)) (dDrop (dMt "list" gAppend (dV 5) (dConsA (dTup (dConsA (dC (.str "end")) (dConsA (dV 2) (dConsA (dC (.str "ok")) dNilA)))) dNilA))) dSkip)
  (dRet (dV 5))))
noncomputable def m_law_more : Fn := runB 6 b_law_more
noncomputable def b_law_turned : DS :=
  (dSeq (dAsg (dV 0) (sTup 2 (sCons (sName 2) (sCons (sName 3) sNil))))
  (dSeq (dSet 4 (dBin gIx (dBin gIx (dV 2) (dC (.int 0))) (dC (.int 0))))
  (dSeq (dSet 5 (dCall 2 m_law_begins (dConsA (dV 3) (dConsA (dC (.str "write")) dNilA))))
  (dSeq (dSet 6 (dCall 2 m_law_begins (dConsA (dV 3) (dConsA (dC (.str "read")) dNilA))))
  (dSeq (dSet 7 (dCall 2 m_law_take (dConsA (dV 1) (dConsA (dC (.int 8)) dNilA))))
  (dSeq (dSet 8 (dBin gEq (dCall 2 m_law_take (dConsA (dV 1) (dConsA (dC (.int 2)) dNilA))) (dC (.int 1))))
  (dSeq (dSet 9 (dLc (Sum.inl 12) [12] (dItA (dV 3)) (dT (dBin gEq (dBin gIx (dV 12) (dC (.int 0))) (dC (.str "begin")))) (dBin gIx (dV 12) (dC (.int 4)))))
  (dSeq (dSet 10 (dBin gIx (dLc (Sum.inl 13) [13] (dRange2 (dConsA (dC (.int 1)) (dConsA (dC (.int 30)) dNilA))) (dT (dBin gNotIn (dV 13) (dV 9))) (dV 13)) (dC (.int 0))))
  (dSeq (dSet 11 (dC (.int 5)))
  (dSeq (dIf (dT (dBin gNe (dV 5) (dLst dNilA))) (dSet 11 (dBin gIx (dBin gIx (dV 3) (dBin gIx (dV 5) (dC (.int 0)))) (dC (.int 1)))) dSkip)
  (dSeq (dIf (dAnd (dT (dBin gEq (dV 7) (dC (.int 0)))) (dT (dBin gNe (dV 5) (dLst dNilA)))) (dRet (dTup (dConsA (dV 2) (dConsA (dCall 5 m_law_more (dConsA (dV 3) (dConsA (dV 4) (dConsA (dBin gMod (dBin gAdd (dBin gAdd (dV 11) (dC (.int 1))) (dCall 2 m_law_take (dConsA (dV 1) (dConsA (dC (.int 5)) dNilA)))) (dC (.int 6))) (dConsA (dV 10) (dConsA (dV 8) dNilA)))))) dNilA)))) dSkip)
  (dSeq (dIf (dAnd (dT (dBin gEq (dV 7) (dC (.int 1)))) (dT (dBin gNe (dV 5) (dLst dNilA)))) (dRet (dTup (dConsA (dV 2) (dConsA (dCall 5 m_law_more (dConsA (dV 3) (dConsA (dV 4) (dConsA (dV 11) (dConsA (dBin gIx (dBin gIx (dV 3) (dBin gIx (dV 5) (dCall 2 m_law_take (dConsA (dV 1) (dConsA (dCB gLen (dConsA (dV 5) dNilA)) dNilA))))) (dC (.int 4))) (dConsA (dV 8) dNilA)))))) dNilA)))) dSkip)
  (dSeq (dIf (dT (dBin gEq (dV 7) (dC (.int 2)))) (dRet (dTup (dConsA (dV 2) (dConsA (dCall 5 m_law_more (dConsA (dV 3) (dConsA (dV 4) (dConsA (dV 11) (dConsA (dC (.int 0)) (dConsA (dV 8) dNilA)))))) dNilA)))) dSkip)
  (dSeq (dIf (dAnd (dT (dBin gEq (dV 7) (dC (.int 3)))) (dT (dBin gNe (dV 5) (dLst dNilA)))) (dRet (dTup (dConsA (dV 2) (dConsA (dCall 3 m_law_answered (dConsA (dV 3) (dConsA (dBin gIx (dV 5) (dCall 2 m_law_take (dConsA (dV 1) (dConsA (dCB gLen (dConsA (dV 5) dNilA)) dNilA)))) (dConsA (dBin gIx (dLst (dConsA (dC (.int 1)) (dConsA (dC (.str "none")) (dConsA (dC (.int 0)) dNilA)))) (dCall 2 m_law_take (dConsA (dV 1) (dConsA (dC (.int 3)) dNilA)))) dNilA)))) dNilA)))) dSkip)
  (dSeq (dIf (dAnd (dT (dBin gEq (dV 7) (dC (.int 4)))) (dT (dBin gNe (dV 6) (dLst dNilA)))) (dRet (dTup (dConsA (dV 2) (dConsA (dCall 3 m_law_answered (dConsA (dV 3) (dConsA (dBin gIx (dV 6) (dCall 2 m_law_take (dConsA (dV 1) (dConsA (dCB gLen (dConsA (dV 6) dNilA)) dNilA)))) (dConsA (dBin gIx (dLst (dConsA (dC (.str "ok")) (dConsA (dC (.str "none")) dNilA))) (dCall 2 m_law_take (dConsA (dV 1) (dConsA (dC (.int 2)) dNilA)))) dNilA)))) dNilA)))) dSkip)
  (dSeq (dIf (dT (dBin gEq (dV 7) (dC (.int 5)))) (dRet (dCall 2 m_law_beside (dConsA (dV 0) (dConsA (dV 1) dNilA)))) dSkip)
  (dSeq (dIf (dT (dBin gEq (dV 7) (dC (.int 6)))) (dRet (dTup (dConsA (dTup (dConsA (dTup (dConsA (dV 4) (dConsA (dC (.str "cell")) dNilA))) dNilA)) (dConsA (dV 3) dNilA)))) dSkip)
  (dRet (dC .non)))))))))))))))))))
noncomputable def m_law_turned : Fn := runB 14 b_law_turned
noncomputable def l_law_0 : DS :=
  (dSeq (dDrop (dCall 2 m_law_asked (dConsA (dV 1) (dConsA (dV 4) dNilA))))
  (dSeq (dIf (dNot (dT (dCall 2 m_law_refused (dConsA (dTup (dConsA (dTup dNilA) (dConsA (dTup dNilA) dNilA))) (dConsA (dV 4) dNilA))))) (dRet (dC (.bl false))) dSkip)
  (dIf (dAnd (dT (dBin gNotN (dV 3) (dC .non))) (dNot (dT (dCall 2 m_law_refused (dConsA (dTup (dConsA (dBin gIx (dV 3) (dC (.int 0))) (dConsA (dCB gTuple (dConsA (dBin gIx (dV 3) (dC (.int 1))) dNilA)) dNilA))) (dConsA (dV 4) dNilA)))))) (dRet (dC (.bl false))) dSkip)))
noncomputable def b_law : DS :=
  (dSeq (dSet 1 (dCall 2 m_law_tale (dConsA (dBin gAdd (dLst (dConsA (dCall 2 m_law_cell_at (dConsA (dV 0) (dConsA (dC (.int 0)) dNilA))) dNilA)) (dSl gSl (dV 0) (dPart (dC (.int 2))) dNoPart)) (dConsA (dC (.int 24)) dNilA))))
  (dSeq (dSet 2 (dCall 2 m_law_stream (dConsA (dBin gDiv (dCall 2 m_law_cell_at (dConsA (dV 0) (dConsA (dC (.int 1)) dNilA))) (dC (.int 2))) (dConsA (dBin gMod (dCall 2 m_law_cell_at (dConsA (dV 0) (dConsA (dC (.int 1)) dNilA))) (dC (.int 2))) dNilA))))
  (dSeq (dSet 3 (dCall 2 m_law_turned (dConsA (dV 1) (dConsA (dV 2) dNilA))))
  (dSeq (dFor (dRange1 (dConsA (dC (.int 3)) dNilA)) (sName 4) l_law_0)
  (dRet (dC (.bl true)))))))
noncomputable def m_law : Fn := runB 5 b_law

def Keep (n : Nat) (S S' : Sto) : Prop := S.length ≤ S'.length ∧ ∀ k, k < S.length → k ≠ n → S'[k]? = S[k]?
theorem Keep.refl (n : Nat) (S : Sto) : Keep n S S := ⟨Nat.le_refl _, fun _ _ _ => rfl⟩
theorem Keep.trans {n : Nat} {S S1 S2 : Sto} (a : Keep n S S1) (b : Keep n S1 S2) : Keep n S S2 := ⟨Nat.le_trans a.1 b.1, fun k h1 h2 => (b.2 k (Nat.lt_of_lt_of_le h1 a.1) h2).trans (a.2 k h1 h2)⟩
theorem Keep.set (n : Nat) (S : Sto) (o : O) : Keep n S (S.set n o) := ⟨by simp, fun k _ h => by rw [List.getElem?_set_ne (Ne.symm h)]⟩
theorem Keep.app (n : Nat) (S : Sto) (l : List O) : Keep n S (S ++ l) := ⟨by simp, fun k h _ => by rw [List.getElem?_append_left h]⟩
theorem Keep.at {n k : Nat} {S S' : Sto} {o : O} (a : Keep n S S') (h : S[k]? = some o) (hk : k ≠ n) : S'[k]? = some o := (a.2 k (List.getElem?_eq_some_iff.mp h).1 hk).trans h
def RowAt (S : Sto) (n : Nat) : Prop := ∃ a w c : Int, S[n]? = some (.lst [.int a, .int w, .int c]) ∧ 0 ≤ c ∧ c < 536870909
theorem RowAt.app {S : Sto} {n : Nat} (h : RowAt S n) (l : List O) : RowAt (S ++ l) n := by
  obtain ⟨a, w, c, h, q⟩ := h
  exact ⟨a, w, c, by rw [List.getElem?_append_left (List.getElem?_eq_some_iff.mp h).1]; exact h, q⟩
theorem take_spec {S : Sto} {n : Nat} {m : Int} (hR : RowAt S n) (m0 : 0 < m) (m1 : m < 2 ^ 200) :
    ∃ t S', m_law_take [.ref n, .int m] S = .ok (.int t) S' ∧ 0 ≤ t ∧ t < m ∧ RowAt S' n ∧ Keep n S S' := by
  obtain ⟨a, w, c, h, c0, c1⟩ := hR
  have hn : n < S.length := (List.getElem?_eq_some_iff.mp h).1
  by_cases hw : w = 0 ∧ a ≠ 0 ∧ a ≠ -1
  · obtain ⟨h1, h2, h3⟩ := hw
    refine ⟨a % m, S.set n (.lst [.int (a / m), .int w, .int c]), ?_, Int.emod_nonneg _ (by omega), Int.emod_lt_of_pos _ m0, ⟨a / m, w, c, by simp [hn], c0, c1⟩, Keep.set ..⟩
    simp [m_law_take, b_law_take, runB_eq, h, h1, h2, h3, newT_ok, gMod_int m0, gDiv_int m0 m1, Ne.symm h2, Ne.symm h3]
  · have q1 : 0 ≤ (c + 7919) * (c + 104729) % 536870909 ∧ (c + 7919) * (c + 104729) % 536870909 < 536870909 := ⟨Int.emod_nonneg _ (by omega), Int.emod_lt_of_pos _ (by omega)⟩
    have b1 : (c + 7919).natAbs < 2 ^ 200 ∧ (c + 104729).natAbs < 2 ^ 200 := by
      have : (c + 7919).natAbs < 2 ^ 60 ∧ (c + 104729).natAbs < 2 ^ 60 := by omega
      exact ⟨Nat.lt_of_lt_of_le this.1 (Nat.pow_le_pow_right (by omega) (by omega)), Nat.lt_of_lt_of_le this.2 (Nat.pow_le_pow_right (by omega) (by omega))⟩
    have b2 : ((c + 7919) * (c + 104729) % 536870909).natAbs < 2 ^ 200 ∧ (48271 : Int).natAbs < 2 ^ 200 := by
      have : ((c + 7919) * (c + 104729) % 536870909).natAbs < 2 ^ 60 := by omega
      exact ⟨Nat.lt_of_lt_of_le this (Nat.pow_le_pow_right (by omega) (by omega)), by decide⟩
    have rest : ∀ (env : RL.Env), env[0]? = some (some (.ref n)) → env[1]? = some (some (.int m)) → (Fl.seq (Fl.nx env S) (dSeq (dAsg (dBin gMod (dBin gMul (dBin gAdd (dBin gIx (dV 0) (dC (D.int 2))) (dC (D.int 7919))) (dBin gAdd (dBin gIx (dV 0) (dC (D.int 2))) (dC (D.int 104729)))) (dC (D.int 536870909))) (sSub (dV 0) (dC (D.int 2))))
        (dRet (dBin gMod (dBin gAdd (dBin gMul (dBin gIx (dV 0) (dC (D.int 2))) (dC (D.int 48271))) (dC (D.int 11))) (dV 1))))).toR =
        .ok (.int (((c + 7919) * (c + 104729) % 536870909 * 48271 + 11) % m)) (S.set n (.lst [.int a, .int w, .int ((c + 7919) * (c + 104729) % 536870909)])) := by
      intro env e0 e1
      simp [h, e0, e1, setAt hn, gMul_int b1, gMod_int (show (0:Int) < 536870909 by omega), gMul_int b2, gMod_int m0]
    refine ⟨((c + 7919) * (c + 104729) % 536870909 * 48271 + 11) % m, S.set n (.lst [.int a, .int w, .int ((c + 7919) * (c + 104729) % 536870909)]), ?_, Int.emod_nonneg _ (by omega), Int.emod_lt_of_pos _ m0, ⟨a, w, _, by simp [hn], q1.1, q1.2⟩, Keep.set ..⟩
    rw [← rest [some (.ref n), some (.int m), none] rfl rfl]
    unfold m_law_take b_law_take
    rw [runB_eq, dSeq_eq]
    congr 2
    by_cases h1 : w = 0
    · by_cases h2 : a = 0
      · simp [h, h1, h2, newT_ok]
      · have h3 : a = -1 := by
          by_cases h3 : a = -1
          · exact h3
          · exact absurd ⟨h1, h2, h3⟩ hw
        simp [h, h1, h3, newT_ok]
    · simp [h, h1]
theorem worth_spec {S : Sto} {n : Nat} (hR : RowAt S n) : ∃ i S', m_law_worth [.ref n] S = .ok (.int i) S' ∧ -1000000000 ≤ i ∧ i ≤ 1000000000 ∧ RowAt S' n ∧ Keep n S S' := by
  obtain ⟨t, S1, e1, t0, t1, R1, K1⟩ := take_spec hR (m := 4) (by omega) (by decide)
  by_cases h0 : t = 0
  · obtain ⟨u, S2, e2, u0, u1, R2, K2⟩ := take_spec R1 (m := 2000000001) (by omega) (by decide)
    refine ⟨u - 1000000000, S2, ?_, by omega, by omega, R2, K1.trans K2⟩
    simp [m_law_worth, b_law_worth, runB_eq, e1, h0, e2, gMul_int (i := 2) (j := 1000000000) (by decide)]
  · by_cases h1 : t = 1
    · obtain ⟨u, S2, e2, u0, u1, R2, K2⟩ := take_spec (R1.app [.lst [.int 1000000000, .int (-1000000000), .int 999999999, .int (-999999999)]]) (m := 4) (by omega) (by decide)
      have hS2 : S2[S1.length]? = some (.lst [.int 1000000000, .int (-1000000000), .int 999999999, .int (-999999999)]) :=
        K2.at (by simp) (fun e => by obtain ⟨_, _, _, q, _⟩ := R1; have := (List.getElem?_eq_some_iff.mp q).1; omega)
      obtain ⟨d, hd, hm⟩ := atI_mem (xs := [D.int 1000000000, .int (-1000000000), .int 999999999, .int (-999999999)]) u0 (by simpa using u1)
      have : ∃ i, d = .int i ∧ -1000000000 ≤ i ∧ i ≤ 1000000000 := by
        simp at hm
        rcases hm with rfl | rfl | rfl | rfl <;> exact ⟨_, rfl, by omega, by omega⟩
      obtain ⟨i, rfl, i0, i1⟩ := this
      refine ⟨i, S2, ?_, i0, i1, R2, (K1.trans (Keep.app ..)).trans K2⟩
      simp [m_law_worth, b_law_worth, runB_eq, e1, h1, newL_ok, e2, hS2, hd]
    · obtain ⟨u, S2, e2, u0, u1, R2, K2⟩ := take_spec R1 (m := 7) (by omega) (by decide)
      refine ⟨u - 3, S2, ?_, by omega, by omega, R2, K1.trans K2⟩
      simp [m_law_worth, b_law_worth, runB_eq, e1, h0, h1, e2]

theorem RowAt.ne {S : Sto} {n : Nat} (h : RowAt S n) : n < S.length := by obtain ⟨_, _, _, q, _⟩ := h; exact (List.getElem?_eq_some_iff.mp q).1

theorem stream_spec {S : Sto} {c w : Int} : ∃ S', m_law_stream [.int c, .int w] S = .ok (.ref S.length) S' ∧ RowAt S' S.length ∧ Keep S.length S S' := by
  have q : 0 ≤ c % 536870909 ∧ c % 536870909 < 536870909 := ⟨Int.emod_nonneg _ (by omega), Int.emod_lt_of_pos _ (by omega)⟩
  have p : (2:Nat) ^ 60 ≤ 2 ^ 200 := Nat.pow_le_pow_right (by omega) (by omega)
  have b1 : (c % 536870909).natAbs < 2 ^ 200 := by omega
  have q2 : 0 ≤ c % 536870909 * (c % 536870909) % 536870909 ∧ c % 536870909 * (c % 536870909) % 536870909 < 536870909 := ⟨Int.emod_nonneg _ (by omega), Int.emod_lt_of_pos _ (by omega)⟩
  have b2 : (c % 536870909 * (c % 536870909) % 536870909).natAbs < 2 ^ 200 := by omega
  have b3 : (c % 536870909 + 7).natAbs < 2 ^ 200 := by omega
  refine ⟨_, by
    simp [m_law_stream, b_law_stream, runB_eq, gMod_int (show (0:Int) < 536870909 by omega), gMul_int ⟨b1, b1⟩, gMul_int ⟨b2, b3⟩, newL_ok]
    rfl, ⟨c, w, (c % 536870909 * (c % 536870909) % 536870909 * (c % 536870909 + 7) + 13) % 536870909, by simp, Int.emod_nonneg _ (by omega), Int.emod_lt_of_pos _ (by omega)⟩, Keep.app ..⟩
def isInt (d : D) : Prop := ∃ i, d = .int i
theorem cutD_mem {xs : List D} {lo hi : Option Int} {d : D} (h : d ∈ RL.cutD xs lo hi) : d ∈ xs := by
  unfold RL.cutD at h
  exact List.mem_of_mem_drop (List.mem_of_mem_take h)
theorem cell_at0 {ns : List Int} {S : Sto} : ∃ i, m_law_cell_at [.scr (ns.map D.int), .int 0] S = .ok (.int i) S := by
  cases ns with
  | nil => exact ⟨0, by simp [m_law_cell_at, b_law_cell_at, runB_eq]⟩
  | cons a r => exact ⟨a, by
      have : (0 : Int) < (r.length : Int) + 1 := by omega
      simp [m_law_cell_at, b_law_cell_at, runB_eq, this]⟩

/-! tales of one register, one hand writes: events, deeds -/
inductive Ev where | bw (h w : Int) | br (h : Int) | en (h : Int) (a : Option Int)
def anD : Option Int → D
  | none => .str "ok"
  | some k => .int k
def Ev.d (nm : Str) : Ev → D
  | .bw h w => .tup [.str "begin", .int h, .str nm, .str "write", .int w]
  | .br h => .tup [.str "begin", .int h, .str nm, .str "read", .non]
  | .en h a => .tup [.str "end", .int h, anD a]
/-- a deed: hand, the worth of a write, the end's answer and place -/
structure Dd where
  h : Int
  w : Option Int
  b : Nat
  e : Option (Option Int × Nat)
def idle (h : Int) (fs : List Dd) : Prop := ∀ d ∈ fs, d.h = h → d.e ≠ none
/-- a run of events and its deeds, in the order of their begins -/
inductive Run (wr : Int) : List Ev → List Dd → Prop
  | nil : Run wr [] []
  | bw {es : List Ev} {fs : List Dd} {w : Int} : Run wr es fs → idle wr fs → (∀ d ∈ fs, d.w ≠ some w) → w ≠ 0 → Run wr (es ++ [.bw wr w]) (fs ++ [⟨wr, some w, es.length, none⟩])
  | br {es : List Ev} {fs : List Dd} {h : Int} : Run wr es fs → idle h fs → Run wr (es ++ [.br h]) (fs ++ [⟨h, none, es.length, none⟩])
  | en {es : List Ev} {fs : List Dd} {h : Int} {a : Option Int} {i : Nat} {d : Dd} : Run wr es fs → fs[i]? = some d → d.h = h → d.e = none → (d.w.isSome = a.isNone) → Run wr (es ++ [.en h a]) (fs.set i ⟨d.h, d.w, d.b, some (a, es.length)⟩)

/-- what holds of the deeds of a run -/
structure Good (wr : Int) (es : List Ev) (fs : List Dd) : Prop where
  beg : ∀ d ∈ fs, d.b < es.length ∧ (∀ w, d.w = some w → es[d.b]? = some (.bw d.h w) ∧ d.h = wr ∧ w ≠ 0) ∧ (d.w = none → es[d.b]? = some (.br d.h))
  fin : ∀ d ∈ fs, ∀ a e, d.e = some (a, e) → d.b < e ∧ es[e]? = some (.en d.h a) ∧ d.w.isSome = a.isNone
  has : ∀ (p h w : _), es[p]? = some (.bw h w) → ∃ d ∈ fs, d.b = p ∧ d.w = some w ∧ d.h = h
  hen : ∀ (p h : _) (a : Option Int), es[p]? = some (.en h a) → ∃ d ∈ fs, d.e = some (a, p) ∧ d.h = h
  apart : fs.Pairwise fun d d' => d.b < d'.b ∧ (d.h = d'.h → ∃ a e, d.e = some (a, e) ∧ e < d'.b) ∧ (∀ w, d.w = some w → d'.w ≠ some w)
theorem at_old {α : Type} {es : List α} {x : α} {p : Nat} {y : α} (h : es[p]? = some y) : (es ++ [x])[p]? = some y := by rw [List.getElem?_append_left (List.getElem?_eq_some_iff.mp h).1]; exact h
theorem at_snoc {α : Type} {es : List α} {x y : α} {p : Nat} (h : (es ++ [x])[p]? = some y) : es[p]? = some y ∨ (p = es.length ∧ y = x) := by
  by_cases hp : p < es.length
  · rw [List.getElem?_append_left hp] at h; exact .inl h
  · obtain ⟨q, e⟩ := List.getElem?_eq_some_iff.mp h
    have hq : p = es.length := by simp at q; omega
    subst hq
    simp at e
    exact .inr ⟨rfl, e.symm⟩
theorem Good.nil {wr : Int} : Good wr [] [] := ⟨fun _ h => (nomatch h), fun _ h => (nomatch h), fun p h w e => by simp at e, fun p h a e => by simp at e, .nil⟩
theorem Good.snoc {wr h : Int} {es : List Ev} {fs : List Dd} {ev : Ev} {d : Dd} (g : Good wr es fs) (hi : idle h fs) (hd : d.h = h ∧ d.b = es.length ∧ d.e = none) (h1 : (∃ w, ev = .bw h w ∧ d.w = some w ∧ h = wr ∧ w ≠ 0 ∧ ∀ d ∈ fs, d.w ≠ some w) ∨ (ev = .br h ∧ d.w = none)) :
    Good wr (es ++ [ev]) (fs ++ [d]) := by
  obtain ⟨d1, d2, d3⟩ := hd
  refine ⟨fun x hx => ?_, fun x hx a e he => ?_, fun p h' w hp => ?_, fun p h' a hp => ?_, ?_⟩
  · rcases List.mem_append.mp hx with hx | hx
    · obtain ⟨a1, a2, a3⟩ := g.beg x hx
      exact ⟨by simp; omega, fun w hw => ⟨at_old (a2 w hw).1, (a2 w hw).2⟩, fun hw => at_old (a3 hw)⟩
    · obtain rfl := List.mem_singleton.mp hx
      refine ⟨by simp; omega, fun w hw => ?_, fun hw => ?_⟩
      · rcases h1 with ⟨w', rfl, q1, q2, q3, _⟩ | ⟨_, q⟩
        · rw [q1] at hw; cases hw
          exact ⟨by rw [d2, d1]; simp, d1.trans q2, q3⟩
        · rw [q] at hw; cases hw
      · rcases h1 with ⟨w', rfl, q1, q2, q3, _⟩ | ⟨rfl, q⟩
        · rw [q1] at hw; cases hw
        · rw [d2, d1]; simp
  · rcases List.mem_append.mp hx with hx | hx
    · obtain ⟨a1, a2, a3⟩ := g.fin x hx a e he
      exact ⟨a1, at_old a2, a3⟩
    · obtain rfl := List.mem_singleton.mp hx
      rw [d3] at he; cases he
  · rcases at_snoc hp with hp | ⟨rfl, q⟩
    · obtain ⟨x, hx, r⟩ := g.has p h' w hp
      exact ⟨x, List.mem_append_left _ hx, r⟩
    · rcases h1 with ⟨w', rfl, q1, q2, q3, _⟩ | ⟨rfl, _⟩
      · cases q; exact ⟨d, by simp, d2, q1, d1⟩
      · cases q
  · rcases at_snoc hp with hp | ⟨rfl, q⟩
    · obtain ⟨x, hx, r⟩ := g.hen p h' a hp
      exact ⟨x, List.mem_append_left _ hx, r⟩
    · rcases h1 with ⟨w', rfl, _⟩ | ⟨rfl, _⟩ <;> cases q
  · refine List.pairwise_append.mpr ⟨g.apart, List.pairwise_singleton .., fun x hx y hy => ?_⟩
    obtain rfl := List.mem_singleton.mp hy
    refine ⟨by rw [d2]; exact (g.beg x hx).1, fun q => ?_, fun w hw => ?_⟩
    · have := hi x hx (q.trans d1)
      cases he : x.e with
      | none => exact absurd he this
      | some p =>
        obtain ⟨a, e⟩ := p
        exact ⟨a, e, rfl, by rw [d2]; exact (List.getElem?_eq_some_iff.mp (g.fin x hx a e he).2.1).1⟩
    · rcases h1 with ⟨w', rfl, q1, q2, q3, q4⟩ | ⟨_, q⟩
      · rw [q1]; intro z; cases z; exact q4 x hx hw
      · rw [q]; exact fun z => nomatch z
theorem Good.close {wr : Int} {es : List Ev} {fs : List Dd} {a : Option Int} {i : Nat} {d : Dd} (g : Good wr es fs) (hd : fs[i]? = some d) (ho : d.e = none) (hw : d.w.isSome = a.isNone) : Good wr (es ++ [.en d.h a]) (fs.set i ⟨d.h, d.w, d.b, some (a, es.length)⟩) := by
  have hm : d ∈ fs := List.mem_of_getElem? hd
  have hi : i < fs.length := (List.getElem?_eq_some_iff.mp hd).1
  have old : ∀ x ∈ fs.set i ⟨d.h, d.w, d.b, some (a, es.length)⟩, ∃ y ∈ fs, x.h = y.h ∧ x.w = y.w ∧ x.b = y.b := fun x hx => by
    rcases List.mem_or_eq_of_mem_set hx with h | rfl
    · exact ⟨x, h, rfl, rfl, rfl⟩
    · exact ⟨d, hm, rfl, rfl, rfl⟩
  refine ⟨fun x hx => ?_, fun x hx a' e he => ?_, fun p h' w hp => ?_, fun p h' a' hp => ?_, ?_⟩
  · obtain ⟨y, hy, q1, q2, q3⟩ := old x hx
    obtain ⟨a1, a2, a3⟩ := g.beg y hy
    rw [q1, q2, q3]
    exact ⟨by simp; omega, fun w hw => ⟨at_old (a2 w hw).1, (a2 w hw).2⟩, fun hw => at_old (a3 hw)⟩
  · rcases List.mem_or_eq_of_mem_set hx with h | rfl
    · obtain ⟨a1, a2, a3⟩ := g.fin x h a' e he
      exact ⟨a1, at_old a2, a3⟩
    · cases he
      exact ⟨(g.beg d hm).1, by simp, hw⟩
  · rcases at_snoc hp with hp | ⟨_, q⟩
    · obtain ⟨x, hx, r1, r2, r3⟩ := g.has p h' w hp
      obtain ⟨j, hj⟩ := List.mem_iff_getElem?.mp hx
      by_cases e : j = i
      · subst e
        rw [hd] at hj; cases hj
        exact ⟨_, List.mem_of_getElem? (List.getElem?_set_self hi), r1, r2, r3⟩
      · exact ⟨x, List.mem_of_getElem? (by rw [List.getElem?_set_ne (Ne.symm e)]; exact hj), r1, r2, r3⟩
    · cases q
  · rcases at_snoc hp with hp | ⟨rfl, q⟩
    · obtain ⟨x, hx, r1, r2⟩ := g.hen p h' a' hp
      obtain ⟨j, hj⟩ := List.mem_iff_getElem?.mp hx
      have e : j ≠ i := fun e => by subst e; rw [hd] at hj; cases hj; rw [ho] at r1; cases r1
      exact ⟨x, List.mem_of_getElem? (by rw [List.getElem?_set_ne (Ne.symm e)]; exact hj), r1, r2⟩
    · cases q
      exact ⟨_, List.mem_of_getElem? (List.getElem?_set_self hi), rfl, rfl⟩
  · rw [List.pairwise_iff_getElem]
    intro j k hj hk hjk
    have ap := List.pairwise_iff_getElem.mp g.apart
    rw [List.length_set] at hj hk
    have A := ap j k hj hk hjk
    rw [List.getElem_set, List.getElem_set]
    have ed : fs[i] = d := (List.getElem?_eq_some_iff.mp hd).2
    by_cases e1 : i = j
    · subst e1
      rw [if_pos rfl, if_neg (by omega)]
      rw [ed] at A
      refine ⟨A.1, fun q => ?_, A.2.2⟩
      obtain ⟨a', e', q', _⟩ := A.2.1 q
      rw [ho] at q'; cases q'
    · rw [if_neg e1]
      by_cases e2 : i = k
      · subst e2
        rw [if_pos rfl]
        rw [ed] at A
        exact A
      · rw [if_neg e2]; exact A
theorem Run.good {wr : Int} {es : List Ev} {fs : List Dd} (r : Run wr es fs) : Good wr es fs := by
  induction r with
  | nil => exact Good.nil
  | bw r hi hw h0 ih => exact ih.snoc hi ⟨rfl, rfl, rfl⟩ (.inl ⟨_, rfl, rfl, rfl, h0, hw⟩)
  | br r hi ih => exact ih.snoc hi ⟨rfl, rfl, rfl⟩ (.inr ⟨rfl, rfl⟩)
  | en r hd hh ho hw ih => subst hh; exact ih.close hd ho hw

/-- the law's way to the last written worth -/
def lstp (s : Int × Option (Int × Int)) : Ev → Int × Option (Int × Int)
  | .bw h w => (s.1, some (h, w))
  | .br _ => s
  | .en h _ => match s.2 with
    | some (h', w') => if h = h' then (w', none) else s
    | none => s
def lastF (es : List Ev) (p : Nat) : Int × Option (Int × Int) := (es.take p).foldl lstp (0, none)
def endW (p : Nat) (d : Dd) : Option Int := match d.w, d.e with
  | some w, some (_, e) => if e < p then some w else none
  | _, _ => none
/-- the program's way -/
def lastW (fs : List Dd) (p : Nat) : Int := fs.foldl (fun x d => (endW p d).getD x) 0
def opn (p : Nat) (d : Dd) : Prop := d.w ≠ none ∧ d.b < p ∧ ∀ a e, d.e = some (a, e) → p ≤ e
theorem lastW_none {fs : List Dd} {p : Nat} : ∀ {x : Int}, (∀ d ∈ fs, endW p d = none) → fs.foldl (fun x d => (endW p d).getD x) x = x := by
  induction fs with
  | nil => intro x _; rfl
  | cons d r ih =>
    intro x h
    rw [List.foldl_cons, h d List.mem_cons_self]
    exact ih fun y hy => h y (List.mem_cons_of_mem _ hy)
theorem lastW_split {l1 l2 : List Dd} {d : Dd} {p : Nat} {w : Int} (h : endW p d = some w) (h2 : ∀ y ∈ l2, endW p y = none) : lastW (l1 ++ d :: l2) p = w := by
  unfold lastW
  rw [List.foldl_append, List.foldl_cons, h, lastW_none h2]; rfl
theorem lastW_congr {fs : List Dd} {p q : Nat} (h : ∀ d ∈ fs, endW p d = endW q d) : lastW fs p = lastW fs q := by
  unfold lastW
  have : ∀ (l : List Dd) (x : Int), (∀ d ∈ l, endW p d = endW q d) → l.foldl (fun x d => (endW p d).getD x) x = l.foldl (fun x d => (endW q d).getD x) x := by
    intro l
    induction l with
    | nil => intro x _; rfl
    | cons d r ih =>
      intro x h
      rw [List.foldl_cons, List.foldl_cons, h d List.mem_cons_self]
      exact ih _ fun y hy => h y (List.mem_cons_of_mem _ hy)
  exact this fs 0 h

/-- begun ahead of p, not ended ahead of p -/
def aliv (p : Nat) (d : Dd) : Prop := d.b < p ∧ ∀ a e, d.e = some (a, e) → p ≤ e
theorem Good.same {wr : Int} {es : List Ev} {fs : List Dd} (g : Good wr es fs) {p : Nat} {x y : Dd} (hx : x ∈ fs) (hy : y ∈ fs) (hh : x.h = y.h) (ax : aliv p x) (ay : aliv p y) : x = y := by
  obtain ⟨i, hi⟩ := List.mem_iff_getElem?.mp hx
  obtain ⟨j, hj⟩ := List.mem_iff_getElem?.mp hy
  obtain ⟨qi, ei⟩ := List.getElem?_eq_some_iff.mp hi
  obtain ⟨qj, ej⟩ := List.getElem?_eq_some_iff.mp hj
  have ap := List.pairwise_iff_getElem.mp g.apart
  rcases Nat.lt_trichotomy i j with h | h | h
  · have A := ap i j qi qj h
    rw [ei, ej] at A
    obtain ⟨a, e, q, r⟩ := A.2.1 hh
    have := ax.2 a e q
    have := ay.1
    omega
  · subst h; rw [hi] at hj; cases hj; rfl
  · have A := ap j i qj qi h
    rw [ei, ej] at A
    obtain ⟨a, e, q, r⟩ := A.2.1 hh.symm
    have := ay.2 a e q
    have := ax.1
    omega
theorem Good.wr {wr : Int} {es : List Ev} {fs : List Dd} (g : Good wr es fs) {d : Dd} (h : d ∈ fs) (hw : d.w ≠ none) : d.h = wr := by
  cases e : d.w with
  | none => exact absurd e hw
  | some w => exact ((g.beg d h).2.1 w e).2.1
theorem Good.atend {wr : Int} {es : List Ev} {fs : List Dd} (g : Good wr es fs) {d : Dd} {a : Option Int} {e : Nat} (h : d ∈ fs) (he : d.e = some (a, e)) : aliv e d :=
  ⟨(g.fin d h a e he).1, fun a' e' q => by rw [he] at q; cases q; exact Nat.le_refl _⟩
def StL (wr : Int) (fs : List Dd) (p : Nat) (s : Int × Option (Int × Int)) : Prop :=
  s.1 = lastW fs p ∧ match s.2 with
    | none => ∀ d ∈ fs, d.w ≠ none → ¬ aliv p d
    | some (h, w) => h = wr ∧ ∃ d ∈ fs, d.w = some w ∧ aliv p d
theorem lastW_pass {wr : Int} {es : List Ev} {fs : List Dd} (g : Good wr es fs) {p : Nat} {ev : Ev} (he : es[p]? = some ev) (hn : ∀ h a, ev = .en h a → ∀ d ∈ fs, d.w ≠ none → ∀ a', d.e ≠ some (a', p)) : lastW fs (p + 1) = lastW fs p := by
  refine lastW_congr fun d hd => ?_
  unfold endW
  split
  · rename_i w a e q1 q2
    have f := g.fin d hd a e q2
    have : e ≠ p := fun z => by
      subst z
      rw [he] at f
      obtain ⟨_, f2, _⟩ := f
      cases f2
      exact hn _ _ rfl d hd (by rw [q1]; simp) a q2
    by_cases h : e < p
    · rw [if_pos h, if_pos (by omega)]
    · rw [if_neg h, if_neg (by omega)]
  · rfl
theorem aliv_pass {p : Nat} {d : Dd} (hb : d.b ≠ p) (he : ∀ a, d.e ≠ some (a, p)) : aliv (p + 1) d ↔ aliv p d := by
  constructor
  · rintro ⟨h1, h2⟩
    exact ⟨by omega, fun a e q => by have := h2 a e q; omega⟩
  · rintro ⟨h1, h2⟩
    refine ⟨by omega, fun a e q => ?_⟩
    have := h2 a e q
    have : e ≠ p := fun z => by subst z; exact he a q
    omega
theorem StL.step {wr : Int} {es : List Ev} {fs : List Dd} (g : Good wr es fs) {p : Nat} {ev : Ev} {s : Int × Option (Int × Int)} (he : es[p]? = some ev) (st : StL wr fs p s) : StL wr fs (p + 1) (lstp s ev) := by
  obtain ⟨s1, s2⟩ := s
  cases ev with
  | bw h w =>
    obtain ⟨d, hd, d1, d2, d3⟩ := g.has p h w he
    refine ⟨st.1.trans (lastW_pass g he fun _ _ z => nomatch z).symm, ?_⟩
    refine ⟨d3 ▸ ((g.beg d hd).2.1 w d2).2.1, d, hd, d2, by omega, fun a e q => ?_⟩
    have := (g.fin d hd a e q).1
    omega
  | br h =>
    have P : ∀ d ∈ fs, d.w ≠ none → (aliv (p + 1) d ↔ aliv p d) := fun d hd hw => by
      refine aliv_pass (fun z => ?_) (fun a z => ?_)
      · cases q : d.w with
        | none => exact hw q
        | some w =>
          have := ((g.beg d hd).2.1 w q).1
          rw [z, he] at this
          cases this
      · have := (g.fin d hd a p z).2.1
        rw [he] at this
        cases this
    refine ⟨st.1.trans (lastW_pass g he fun _ _ z => nomatch z).symm, ?_⟩
    have st2 := st.2
    cases s2 with
    | none => exact fun d hd hw => by rw [P d hd hw]; exact st2 d hd hw
    | some hw =>
      obtain ⟨h', w'⟩ := hw
      obtain ⟨q1, d, hd, q2, q3⟩ := st2
      exact ⟨q1, d, hd, q2, (P d hd (by rw [q2]; simp)).mpr q3⟩
  | en h a =>
    obtain ⟨d, hd, d1, d2⟩ := g.hen p h a he
    have ad := g.atend hd d1
    have U : ∀ y ∈ fs, ∀ a', y.e = some (a', p) → y = d := fun y hy a' q => by
      have f := (g.fin y hy a' p q).2.1
      rw [he] at f
      have : y.h = d.h := by injection f with f; injection f with f1 f2; rw [d2, f1]
      exact g.same hy hd this (g.atend hy q) ad
    have B : ∀ y ∈ fs, y.b ≠ p := fun y hy z => by
      cases q : y.w with
      | none =>
        have := (g.beg y hy).2.2 q
        rw [z, he] at this; cases this
      | some w =>
        have := ((g.beg y hy).2.1 w q).1
        rw [z, he] at this; cases this
    cases dw : d.w with
    | none =>
      have P : ∀ y ∈ fs, y.w ≠ none → (aliv (p + 1) y ↔ aliv p y) := fun y hy hw =>
        aliv_pass (B y hy) fun a' z => by have := U y hy a' z; subst this; exact hw dw
      have L := lastW_pass g he fun _ _ _ y hy hw a' z => by have := U y hy a' z; subst this; exact hw dw
      have st2 := st.2
      cases s2 with
      | none => exact ⟨st.1.trans L.symm, fun y hy hw => by rw [P y hy hw]; exact st2 y hy hw⟩
      | some hw =>
        obtain ⟨h', w'⟩ := hw
        obtain ⟨q1, y, hy, q2, q3⟩ := st2
        have hn : h ≠ h' := fun z => by
          have : y = d := g.same hy hd (by rw [d2, z, q1]; exact g.wr hy (by rw [q2]; simp)) q3 ad
          subst this
          rw [q2] at dw; cases dw
        show StL wr fs (p + 1) (if h = h' then (w', none) else (s1, some (h', w')))
        rw [if_neg hn]
        exact ⟨st.1.trans L.symm, q1, y, hy, q2, (P y hy (by rw [q2]; simp)).mpr q3⟩
    | some w =>
      have hwr : d.h = wr := g.wr hd (by rw [dw]; simp)
      have st2 := st.2
      cases s2 with
      | none => exact absurd ad (st2 d hd (by rw [dw]; simp))
      | some hw =>
        obtain ⟨h', w'⟩ := hw
        obtain ⟨q1, y, hy, q2, q3⟩ := st2
        have : y = d := g.same hy hd (by rw [hwr]; exact g.wr hy (by rw [q2]; simp)) q3 ad
        subst this
        rw [dw] at q2; cases q2
        show StL wr fs (p + 1) (if h = h' then (w, none) else (s1, some (h', w)))
        rw [if_pos (by rw [q1, ← d2, hwr])]
        obtain ⟨l1, l2, hs⟩ := List.append_of_mem hd
        have ap := g.apart
        rw [hs, List.pairwise_append, List.pairwise_cons] at ap
        have wh : ∀ z ∈ fs, z.w ≠ none → z.h = wr := fun z hz hw => g.wr hz hw
        refine ⟨?_, fun z hz hw az => ?_⟩
        · show w = _
          rw [hs]
          refine (lastW_split (by unfold endW; rw [dw, d1]; simp) fun z hz => ?_).symm
          have A := ap.2.1.1 z hz
          unfold endW
          split
          · rename_i w2 a2 e2 r1 r2
            have zm : z ∈ fs := by rw [hs]; simp [hz]
            obtain ⟨a3, e3, r3, r4⟩ := A.2.1 (by rw [hwr]; exact (wh z zm (by rw [r1]; simp)).symm)
            rw [d1] at r3; cases r3
            have := (g.fin z zm a2 e2 r2).1
            rw [if_neg (by omega)]
          · rfl
        · have az' : aliv p z := by
            refine ⟨?_, fun a' e' q => ?_⟩
            · have := az.1; have := B z hz; omega
            · have := az.2 a' e' q; omega
          have : z = y := g.same hz hd (by rw [hwr]; exact wh z hz hw) az' ad
          subst this
          have := az.2 a p d1
          omega
theorem lastW_zero {wr : Int} {es : List Ev} {fs : List Dd} (g : Good wr es fs) : lastW fs 0 = 0 := by
  refine lastW_none fun d hd => ?_
  unfold endW
  split
  · rw [if_neg (by omega)]
  · rfl
theorem lastF_st {wr : Int} {es : List Ev} {fs : List Dd} (g : Good wr es fs) : ∀ p, p ≤ es.length → StL wr fs p (lastF es p) := by
  intro p
  induction p with
  | zero =>
    intro _
    exact ⟨(lastW_zero g).symm, fun d _ _ h => absurd h.1 (Nat.not_lt_zero _)⟩
  | succ p ih =>
    intro h
    have q : es[p]? = some es[p] := List.getElem?_eq_getElem h
    have : lastF es (p + 1) = lstp (lastF es p) es[p] := by
      unfold lastF
      rw [List.take_add_one, q, List.foldl_append]; rfl
    rw [this]
    exact (ih (by omega)).step g q

def bwW (b p : Nat) : Option Ev → List Int
  | some (.bw _ w) => if b < p then [w] else []
  | _ => []
def opW : Option (Int × Int) → List Int
  | some (_, w) => [w]
  | none => []
theorem bwW_len {b p : Nat} {o : Option Ev} : (bwW b p o).length ≤ 1 := by
  unfold bwW
  split
  · split <;> simp
  · simp
theorem opW_len {o : Option (Int × Int)} : (opW o).length ≤ 1 := by
  unfold opW
  split <;> simp
/-- the worths written beside a read, the law's way -/
def besF (es : List Ev) (b : Nat) : Nat → List Int
  | 0 => []
  | p + 1 => besF es b p ++ bwW b p es[p]? ++ (if p = b then opW (lastF es (p + 1)).2 else [])
theorem besF_mem {es : List Ev} {b : Nat} {x : Int} : ∀ {p : Nat}, x ∈ besF es b p ↔ (∃ q h, b < q ∧ q < p ∧ es[q]? = some (.bw h x)) ∨ (b < p ∧ ∃ h, (lastF es (b + 1)).2 = some (h, x))
  | 0 => by
    simp only [besF, List.not_mem_nil, false_iff, not_or]
    exact ⟨fun ⟨q, h, _, h2, _⟩ => absurd h2 (Nat.not_lt_zero _), fun ⟨h, _⟩ => absurd h (Nat.not_lt_zero _)⟩
  | p + 1 => by
    have A : (x ∈ bwW b p es[p]?) ↔ (b < p ∧ ∃ h, es[p]? = some (.bw h x)) := by
      unfold bwW
      cases es[p]? with
      | none => simp
      | some ev =>
        cases ev with
        | bw h w =>
          by_cases q : b < p
          · simp [q, eq_comm]
          · simp [q]
        | br h => simp
        | en h a => simp
    have B : (x ∈ (if p = b then opW (lastF es (p + 1)).2 else [])) ↔ (p = b ∧ ∃ h, (lastF es (b + 1)).2 = some (h, x)) := by
      by_cases q : p = b
      · subst q
        rw [if_pos rfl]
        unfold opW
        cases (lastF es (p + 1)).2 with
        | none => simp
        | some hw => obtain ⟨h, w⟩ := hw; simp [eq_comm]
      · simp [q]
    rw [besF, List.mem_append, List.mem_append, besF_mem, A, B]
    constructor
    · rintro (((⟨q, h, h1, h2, h3⟩ | ⟨h1, h2⟩) | ⟨h1, h, h2⟩) | ⟨h1, h2⟩)
      · exact .inl ⟨q, h, h1, by omega, h3⟩
      · exact .inr ⟨by omega, h2⟩
      · exact .inl ⟨p, h, h1, by omega, h2⟩
      · exact .inr ⟨by omega, h2⟩
    · rintro (⟨q, h, h1, h2, h3⟩ | ⟨h1, h2⟩)
      · by_cases e : q = p
        · subst e; exact .inl (.inr ⟨h1, h, h3⟩)
        · exact .inl (.inl (.inl ⟨q, h, h1, by omega, h3⟩))
      · by_cases e : p = b
        · exact .inr ⟨e, h2⟩
        · exact .inl (.inl (.inr ⟨by omega, h2⟩))
/-- the program's way -/
def besO (b e : Nat) (d : Dd) : Option Int := match d.w, d.e with
  | some w, none => if d.b < e then some w else none
  | some w, some (_, f) => if d.b < e ∧ b < f then some w else none
  | none, _ => none
def besW (fs : List Dd) (b e : Nat) : List Int := fs.filterMap (besO b e)
theorem besW_mem {fs : List Dd} {b e : Nat} {x : Int} : x ∈ besW fs b e ↔ ∃ d ∈ fs, d.w = some x ∧ d.b < e ∧ ∀ a f, d.e = some (a, f) → b < f := by
  unfold besW
  rw [List.mem_filterMap]
  refine exists_congr fun d => and_congr_right fun hd => ?_
  unfold besO
  cases h1 : d.w with
  | none => simp
  | some w =>
    cases h2 : d.e with
    | none =>
      by_cases c : d.b < e <;> simp [c]
    | some af =>
      obtain ⟨a, f⟩ := af
      by_cases c : d.b < e ∧ b < f
      · simp [c]
      · simp only [if_neg c]
        constructor
        · intro h; cases h
        · rintro ⟨_, h4, h5⟩; exact absurd ⟨h4, h5 a f rfl⟩ c
theorem bes_same {wr : Int} {es : List Ev} {fs : List Dd} (g : Good wr es fs) {b e : Nat} {x : Int} (hbe : b < e) (he : e ≤ es.length) : x ∈ besF es b e ↔ x ∈ besW fs b e := by
  rw [besF_mem, besW_mem]
  have st := (lastF_st g (b + 1) (by omega)).2
  constructor
  · rintro (⟨q, h, h1, h2, h3⟩ | ⟨h1, h, h2⟩)
    · obtain ⟨d, hd, r1, r2, r3⟩ := g.has q h x h3
      exact ⟨d, hd, r2, by omega, fun a f z => by have := (g.fin d hd a f z).1; omega⟩
    · rw [h2] at st
      obtain ⟨_, d, hd, r1, r2⟩ := st
      exact ⟨d, hd, r1, by have := r2.1; omega, fun a f z => by have := r2.2 a f z; omega⟩
  · rintro ⟨d, hd, h1, h2, h3⟩
    by_cases c : b < d.b
    · exact .inl ⟨d.b, d.h, c, h2, ((g.beg d hd).2.1 x h1).1⟩
    · refine .inr ⟨hbe, ?_⟩
      have al : aliv (b + 1) d := ⟨by omega, fun a f z => by have := h3 a f z; omega⟩
      cases q : (lastF es (b + 1)).2 with
      | none => rw [q] at st; exact absurd al (st d hd (by rw [h1]; simp))
      | some hw =>
        obtain ⟨h', w'⟩ := hw
        rw [q] at st
        obtain ⟨r0, y, hy, r1, r2⟩ := st
        have : y = d := g.same hy hd (by rw [g.wr hy (by rw [r1]; simp), g.wr hd (by rw [h1]; simp)]) r2 al
        subst this
        rw [h1] at r1; cases r1
        exact ⟨h', rfl⟩
theorem bes_nil {wr : Int} {es : List Ev} {fs : List Dd} (g : Good wr es fs) {b e : Nat} (hbe : b < e) (he : e ≤ es.length) : besF es b e = [] ↔ besW fs b e = [] := by
  constructor
  · intro h
    refine List.eq_nil_iff_forall_not_mem.mpr fun x hx => ?_
    have := (bes_same g hbe he).mpr hx
    rw [h] at this
    cases this
  · intro h
    refine List.eq_nil_iff_forall_not_mem.mpr fun x hx => ?_
    have := (bes_same g hbe he).mp hx
    rw [h] at this
    cases this
/-- the ended reads: number, answer, begin, end -/
def rdO (d : Dd) (i : Nat) : Option (Nat × Int × Nat × Nat) := match d.w, d.e with
  | none, some (some a, e) => some (i, a, d.b, e)
  | _, _ => none
def rds (fs : List Dd) (i : Nat) : List (Nat × Int × Nat × Nat) := match fs with
  | [] => []
  | d :: r => (rdO d i).toList ++ rds r (i + 1)
theorem rds_app {l2 : List Dd} : ∀ {l1 : List Dd} {i : Nat}, rds (l1 ++ l2) i = rds l1 i ++ rds l2 (i + l1.length)
  | [], i => by simp [rds]
  | d :: r, i => by
    rw [List.cons_append, rds, rds, rds_app (l1 := r), List.append_assoc, List.length_cons, show i + 1 + r.length = i + (r.length + 1) by omega]
theorem rds_snoc {l : List Dd} {d : Dd} : rds (l ++ [d]) 0 = rds l 0 ++ (rdO d l.length).toList := by
  rw [rds_app]; simp [rds]
def isRg (fs : List Dd) (r : Nat × Int × Nat × Nat) : Prop := r.2.1 = lastW fs r.2.2.1 ∨ r.2.1 ∈ besW fs r.2.2.1 r.2.2.2
def isSf (fs : List Dd) (r : Nat × Int × Nat × Nat) : Prop := r.2.1 = lastW fs r.2.2.1 ∨ besW fs r.2.2.1 r.2.2.2 ≠ []
instance {fs : List Dd} {r : Nat × Int × Nat × Nat} : Decidable (isRg fs r) := by unfold isRg; infer_instance
instance {fs : List Dd} {r : Nat × Int × Nat × Nat} : Decidable (isSf fs r) := by unfold isSf; infer_instance
theorem rds_mem {x : Nat × Int × Nat × Nat} : ∀ {fs : List Dd} {i : Nat}, x ∈ rds fs i → ∃ d ∈ fs, d.w = none ∧ d.e = some (some x.2.1, x.2.2.2) ∧ d.b = x.2.2.1
  | [], _, h => by cases h
  | d :: r, i, h => by
    rw [rds, List.mem_append] at h
    rcases h with h | h
    · refine ⟨d, List.mem_cons_self, ?_⟩
      unfold rdO at h
      split at h
      · rename_i a e q1 q2
        simp at h
        subst h
        exact ⟨q1, q2, rfl⟩
      · simp at h
    · obtain ⟨d', h', r⟩ := rds_mem h
      exact ⟨d', List.mem_cons_of_mem _ h', r⟩
theorem isRg_Sf {fs : List Dd} {r : Nat × Int × Nat × Nat} (h : isRg fs r) : isSf fs r := by
  rcases h with h | h
  · exact .inl h
  · exact .inr fun z => by rw [z] at h; cases h

def oD : Option Int → D
  | none => .non
  | some i => .int i
/-! the written worths: worth, start, end -/
abbrev Wr := Int × Int × Option Int
def wlD (wl : List Wr) : List (D × D) := wl.map fun r => (.int r.1, .tup [.int r.2.1, oD r.2.2])
def lwS (p : Int) (s : Int × Option Int) (r : Wr) : Int × Option Int := match r.2.2 with
  | some e => if e < p ∧ (match s.2 with
      | none => true
      | some l => decide (l < r.2.1)) = true then (r.1, some r.2.1) else s
  | none => s
theorem wlD_find {wl : List Wr} (nd : (wl.map (·.1)).Nodup) {i : Nat} {r : Wr} (h : wl[i]? = some r) : findK (wlD wl) (.int r.1) = some (.tup [.int r.2.1, oD r.2.2]) := by
  induction wl generalizing i with
  | nil => simp at h
  | cons q l ih =>
    rw [wlD, List.map_cons, findK_cons]
    rw [List.map_cons, List.nodup_cons] at nd
    cases i with
    | zero => simp at h; subst h; rw [if_pos rfl]
    | succ i =>
      have h' : l[i]? = some r := by simpa using h
      rw [if_neg]
      · exact ih nd.2 h'
      · intro e
        injection e with e
        exact nd.1 (e ▸ List.mem_map_of_mem (List.mem_of_getElem? h'))
theorem wlD_keys {wl : List Wr} : (wlD wl).map (·.1) = wl.map fun r => D.int r.1 := by unfold wlD; simp

theorem lwritten_spec {wl : List Wr} {p : Int} {n : Nat} {S : Sto} (nd : (wl.map (·.1)).Nodup) (h : S[n]? = some (.dict (wlD wl))) :
    m_last_written [.ref n, .int p] S = .ok (.int (wl.foldl (lwS p) (0, none)).1) S := by
  have hn := lt_at h
  have hf : (S.set n (.fd (wlD wl)))[n]? = some (.fd (wlD wl)) := setAt hn _
  have back : (S.set n (.fd (wlD wl))).set n (.dict (wlD wl)) = S := by
    rw [List.set_set]
    apply List.ext_getElem?
    intro k
    by_cases hk : k = n
    · subst hk; rw [setAt hn, h]
    · rw [List.getElem?_set_ne (Ne.symm hk)]
  obtain ⟨e, S', h1, h2⟩ := forL_inv (gd := [(n, .fd (wlD wl))]) (t := sName 4) (f := l_last_written_0) (items := (wlD wl).map (·.1)) (env := [some (.ref n), some (.int p), some (.int 0), some .non, none, none, none]) (S := S.set n (.fd (wlD wl)))
    (fun i e S' => S' = S.set n (.fd (wlD wl)) ∧ ∃ x y z, e = [some (.ref n), some (.int p), some (.int ((wl.take i).foldl (lwS p) (0, none)).1), some (oD ((wl.take i).foldl (lwS p) (0, none)).2), x, y, z])
    (fun _ _ _ hP => by rw [hP.1]; exact grd_some hf)
    (fun i d e S' hd ⟨hS, x, y, z, he⟩ => by
      rw [wlD_keys, List.getElem?_map] at hd
      obtain ⟨r, hr, rfl⟩ := Option.map_eq_some_iff.mp hd
      have F := wlD_find nd hr
      subst hS
      refine ⟨_, _, [some (.ref n), some (.int p), some (.int ((wl.take (i + 1)).foldl (lwS p) (0, none)).1), some (oD ((wl.take (i + 1)).foldl (lwS p) (0, none)).2), some (.int r.1), some (.int r.2.1), some (oD r.2.2)], S.set n (.fd (wlD wl)), rfl, .inl ?_, rfl, _, _, _, rfl⟩
      subst he
      rw [List.take_add_one, hr, List.foldl_append]
      generalize (wl.take i).foldl (lwS p) (0, none) = s
      obtain ⟨s1, s2⟩ := s
      obtain ⟨w, st, e⟩ := r
      dsimp only at F
      cases e with
      | none => simp [l_last_written_0, hf, F, lwS, oD]
      | some e =>
        by_cases c : e < p
        · cases s2 with
          | none => simp [l_last_written_0, hf, F, lwS, oD, c]
          | some l => by_cases c2 : l < st <;> simp [l_last_written_0, hf, F, lwS, oD, c, c2]
        · simp [l_last_written_0, hf, F, lwS, oD, c])
    ⟨rfl, none, none, none, rfl⟩
  obtain ⟨rfl, x, y, z, rfl⟩ := h2
  have hlen : ((wlD wl).map (·.1)).length = wl.length := by rw [wlD_keys, List.length_map]
  rw [hlen, List.take_length] at h1
  simp only [m_last_written, b_last_written, runB_eq]
  have dF := fun t b => dForN_dict (i := 0) (n := n) (t := t) (b := b) (env := [some (.ref n), some (.int p), some (.int 0), some .non, none, none, none]) (kvs := wlD wl) (S := S) rfl h
  simp [dF, h1, unlockF, hf, back]
def bwP (b f : Int) (r : Wr) : Bool := decide (r.2.1 < f) && (match r.2.2 with
  | none => true
  | some e => decide (b < e))
theorem wbeside_spec {wl : List Wr} {b f : Int} {n : Nat} {S : Sto} (nd : (wl.map (·.1)).Nodup) (hl : wl.length ≤ 1001) (h : S[n]? = some (.dict (wlD wl))) :
    m_written_beside [.ref n, .int b, .int f] S = .ok (.ref S.length) (S ++ [.lst (((wl.filter (bwP b f)).map (·.1)).map D.int)]) := by
  have hn := lt_at h
  have ne : S.length ≠ n := by omega
  have hf : ∀ x, ((S ++ [O.lst x]).set n (.fd (wlD wl)))[n]? = some (.fd (wlD wl)) := fun x => setAt (by simp; omega) _
  have h0 : (S ++ [.lst []])[n]? = some (.dict (wlD wl)) := app_at h
  have back : ∀ x, ((S ++ [O.lst x]).set n (.fd (wlD wl))).set n (.dict (wlD wl)) = S ++ [.lst x] := fun x => by
    rw [List.set_set]
    apply List.ext_getElem?
    intro k
    by_cases hk : k = n
    · subst hk; rw [setAt (by simp; omega), app_at h]
    · rw [List.getElem?_set_ne (Ne.symm hk)]
  have hx : ∀ x, ((S ++ [O.lst x]).set n (.fd (wlD wl)))[S.length]? = some (.lst x) := fun x => by rw [List.getElem?_set_ne (Ne.symm ne)]; simp
  have hs : ∀ x y, ((S ++ [O.lst x]).set n (.fd (wlD wl))).set S.length (.lst y) = (S ++ [O.lst y]).set n (.fd (wlD wl)) := fun x y => by
    apply List.ext_getElem?
    intro k
    by_cases hk : k = S.length
    · subst hk; rw [setAt (by simp), hx]
    · rw [List.getElem?_set_ne (Ne.symm hk)]
      by_cases hk2 : k = n
      · subst hk2; rw [hf, hf]
      · rw [List.getElem?_set_ne (Ne.symm hk2), List.getElem?_set_ne (Ne.symm hk2)]
        by_cases hk3 : k < S.length
        · rw [List.getElem?_append_left hk3, List.getElem?_append_left hk3]
        · rw [List.getElem?_eq_none (by simp; omega), List.getElem?_eq_none (by simp; omega)]
  obtain ⟨e, S', h1, h2⟩ := forL_inv (gd := [(n, .fd (wlD wl))]) (t := sName 4) (f := l_written_beside_0) (items := (wlD wl).map (·.1)) (env := [some (.ref n), some (.int b), some (.int f), some (.ref S.length), none, none, none]) (S := (S ++ [O.lst []]).set n (.fd (wlD wl)))
    (fun i e S' => S' = (S ++ [O.lst ((((wl.take i).filter (bwP b f)).map (·.1)).map D.int)]).set n (.fd (wlD wl)) ∧ ∃ x y z, e = [some (.ref n), some (.int b), some (.int f), some (.ref S.length), x, y, z])
    (fun _ _ _ hP => by rw [hP.1]; exact grd_some (hf _))
    (fun i d e S' hd ⟨hS, x, y, z, he⟩ => by
      rw [wlD_keys, List.getElem?_map] at hd
      obtain ⟨r, hr, rfl⟩ := Option.map_eq_some_iff.mp hd
      have F := wlD_find nd hr
      subst hS
      refine ⟨_, _, [some (.ref n), some (.int b), some (.int f), some (.ref S.length), some (.int r.1), some (.int r.2.1), some (oD r.2.2)], (S ++ [O.lst ((((wl.take (i + 1)).filter (bwP b f)).map (·.1)).map D.int)]).set n (.fd (wlD wl)), rfl, .inl ?_, rfl, _, _, _, rfl⟩
      subst he
      have hlt : i < wl.length := (List.getElem?_eq_some_iff.mp hr).1
      have hB : (((wl.take i).filter (bwP b f)).map (·.1)).length ≤ 1001 := by
        rw [List.length_map]
        refine Nat.le_trans (List.length_filter_le ..) ?_
        rw [List.length_take]; omega
      rw [List.take_add_one, hr, List.filter_append, List.map_append, List.map_append]
      generalize ((wl.take i).filter (bwP b f)).map (·.1) = B at *
      have ap : ∀ w, gAppend (.ref S.length) [.int w] ((S ++ [O.lst (B.map D.int)]).set n (.fd (wlD wl))) = .ok .non ((S ++ [O.lst (B.map D.int ++ [.int w])]).set n (.fd (wlD wl))) := fun w => by
        rw [gAppend_ok (hx _) (by simp; omega), hs]
      obtain ⟨w, st, e⟩ := r
      dsimp only at F
      have hTx := hx (B.map D.int)
      have hTn := hf (B.map D.int)
      generalize hT : (S ++ [O.lst (B.map D.int)]).set n (.fd (wlD wl)) = T at *
      by_cases c : st < f
      · cases e with
        | none => simp [l_written_beside_0, hTn, F, bwP, oD, c, ap, hTx]
        | some e => by_cases c2 : b < e <;> simp [l_written_beside_0, hTn, F, bwP, oD, c, c2, ap, hTx, hT]
      · simp [l_written_beside_0, hTn, F, bwP, oD, c, hT])
    ⟨by simp, none, none, none, rfl⟩
  obtain ⟨rfl, x, y, z, rfl⟩ := h2
  have hlen : ((wlD wl).map (·.1)).length = wl.length := by rw [wlD_keys, List.length_map]
  rw [hlen, List.take_length] at h1
  simp only [m_written_beside, b_written_beside, runB_eq]
  have dF := fun t b' => dForN_dict (i := 0) (n := n) (t := t) (b := b') (env := [some (.ref n), some (.int b), some (.int f), some (.ref S.length), none, none, none]) (kvs := wlD wl) (S := S ++ [.lst []]) rfl h0
  simp [dF, h1, unlockF, hf, back]

/-! deeds, plain_deeds, written_by_one (the program's) -/
def verbD (w : Option Int) : D := if w.isSome then .str "write" else .str "read"
def ansE : Option (Option Int × Nat) → D
  | none => .non
  | some (a, _) => anD a
def endE : Option (Option Int × Nat) → D
  | none => .non
  | some (_, e) => .int (e : Int)
def deedT (nm : Str) (d : Dd) : D := .tup [.int d.h, .str nm, verbD d.w, oD d.w, ansE d.e, .int (d.b : Int), endE d.e]
theorem map_set_ext {α β : Type} {f : α → β} {l : List α} {i : Nat} {x : α} : (l.set i x).map f = (l.map f).set i (f x) := by
  rw [List.map_set]
theorem cut4 {a b c d e f g : D} : RL.cutD [a, b, c, d, e, f, g] none (some 4) = [a, b, c, d] := rfl
theorem deeds_lp {wr : Int} {nm : Str} {es : List Ev} {fs : List Dd} {S : Sto} {x : D} (r : Run wr es fs) (hl : es.length ≤ 1000) :
    ∃ e S', Lp [] (sTup 2 (sCons (sName 3) (sCons (sName 4) sNil))) l_deeds_0 (enumD (es.map (Ev.d nm))) [some x, some (.ref S.length), some (.ref (S.length + 1)), none, none, none] (S ++ [.lst [], .dict []]) e S' ∧
      Gr S S' ∧ S'[S.length]? = some (.lst (fs.map (deedT nm))) ∧ (∃ kvs, S'[S.length + 1]? = some (.dict kvs) ∧ kvs.length ≤ es.length ∧ ∀ i d, fs[i]? = some d → d.e = none → findK kvs (.int d.h) = some (.int (i : Nat))) ∧
      fs.length ≤ es.length ∧ ∃ a b c, e = [some x, some (.ref S.length), some (.ref (S.length + 1)), a, b, c] := by
  have beg : ∀ {es : List Ev} {fs : List Dd} {ev : Ev} {d : Dd} {tl : List D}, ev.d nm = .tup (.str "begin" :: .int d.h :: .str nm :: verbD d.w :: oD d.w :: tl) → idle d.h fs → d.b = es.length → d.e = none → es.length < 1000 →
      (∃ e S', Lp [] (sTup 2 (sCons (sName 3) (sCons (sName 4) sNil))) l_deeds_0 (enumD (es.map (Ev.d nm))) [some x, some (.ref S.length), some (.ref (S.length + 1)), none, none, none] (S ++ [.lst [], .dict []]) e S' ∧
      Gr S S' ∧ S'[S.length]? = some (.lst (fs.map (deedT nm))) ∧ (∃ kvs, S'[S.length + 1]? = some (.dict kvs) ∧ kvs.length ≤ es.length ∧ ∀ i d, fs[i]? = some d → d.e = none → findK kvs (.int d.h) = some (.int (i : Nat))) ∧
      fs.length ≤ es.length ∧ ∃ a b c, e = [some x, some (.ref S.length), some (.ref (S.length + 1)), a, b, c]) →
      ∃ e S', Lp [] (sTup 2 (sCons (sName 3) (sCons (sName 4) sNil))) l_deeds_0 (enumD ((es ++ [ev]).map (Ev.d nm))) [some x, some (.ref S.length), some (.ref (S.length + 1)), none, none, none] (S ++ [.lst [], .dict []]) e S' ∧
      Gr S S' ∧ S'[S.length]? = some (.lst ((fs ++ [d]).map (deedT nm))) ∧ (∃ kvs, S'[S.length + 1]? = some (.dict kvs) ∧ kvs.length ≤ (es ++ [ev]).length ∧ ∀ i d', (fs ++ [d])[i]? = some d' → d'.e = none → findK kvs (.int d'.h) = some (.int (i : Nat))) ∧
      (fs ++ [d]).length ≤ (es ++ [ev]).length ∧ ∃ a b c, e = [some x, some (.ref S.length), some (.ref (S.length + 1)), a, b, c] := by
    rintro es fs ev d tl hev hi hb he hlen ⟨e, S', h1, g, h2, ⟨kvs, h3, h4, h5⟩, h6, a, b, c, rfl⟩
    have l1 := lt_at h2
    have l2 := lt_at h3
    have app := gAppend_ok (S := S'.set (S.length + 1) (.dict (putD kvs (.int d.h) (.int ((fs.map (deedT nm)).length : Nat))))) (y := deedT nm d) ((at_set_ne (by omega)).trans h2) (by simp; omega)
    refine ⟨[some x, some (.ref S.length), some (.ref (S.length + 1)), some (.int ((es.map (Ev.d nm)).length : Nat)), some (ev.d nm), c], _, by
      rw [List.map_append, List.map_singleton, enumD_snoc]
      refine h1.snoc (e1 := [some x, some (.ref S.length), some (.ref (S.length + 1)), some (.int ((es.map (Ev.d nm)).length : Nat)), some (ev.d nm), c]) (S1 := S') (by simp) (.inl ?_) grd_none
      rw [hev]
      simp only [deedT, he, ansE, endE, hb, List.length_map] at app
      have k1 : kvs.length < lim := by unfold lim; omega
      simp [l_deeds_0, h2, h3, k1, newT_ok, app, at_set_ne (S := S') (n := S.length + 1) (m := S.length) (by omega)]
      rfl, (g.set (by omega)).set (Nat.le_refl _), by rw [setAt (by simp; omega), List.map_append, List.map_singleton]; simp only [deedT, he, ansE, endE, hb], ⟨putD kvs (.int d.h) (.int ((fs.map (deedT nm)).length : Nat)), by rw [at_set_ne (by omega)]; simp only [List.length_map]; exact setAt l2 _, Nat.le_trans putD_len (by simp; omega), fun i d' hd' he' => ?_⟩, by simp; omega, _, _, _, rfl⟩
    rw [findK_putD]
    rcases Nat.lt_or_ge i fs.length with q | q
    · rw [List.getElem?_append_left q] at hd'
      have := hi d' (List.mem_of_getElem? hd')
      rw [if_neg (fun z => this (by injection z) he')]
      exact h5 i d' hd' he'
    · have : i = fs.length := by have := (List.getElem?_eq_some_iff.mp hd').1; simp at this; omega
      subst this
      simp at hd'
      subst hd'
      rw [if_pos rfl, List.length_map]
  induction r with
  | nil => exact ⟨_, _, ⟨grd_none, rfl, rfl⟩, Gr.app _ _, by simp, ⟨[], by simp, by simp, fun i d h => by simp at h⟩, by simp, none, none, none, rfl⟩
  | @bw es fs w r hi hw h0 ih => exact beg (d := ⟨wr, some w, es.length, none⟩) rfl hi rfl rfl (by simp at hl; omega) (ih (by simp at hl; omega))
  | @br es fs h r hi ih => exact beg (d := ⟨h, none, es.length, none⟩) rfl hi rfl rfl (by simp at hl; omega) (ih (by simp at hl; omega))
  | @en es fs h a i d r hd hh ho hw ih =>
    obtain ⟨e, S', h1, g, h2, ⟨kvs, h3, h4, h5⟩, h6, a1, b1, c1, rfl⟩ := ih (by simp at hl; omega)
    have l1 := lt_at h2
    have l2 := lt_at h3
    have hi : i < fs.length := (List.getElem?_eq_some_iff.mp hd).1
    have F := h5 i d hd ho
    rw [hh] at F
    have T : (fs.map (deedT nm))[i]? = some (deedT nm d) := by rw [List.getElem?_map, hd]; rfl
    have T2 : L2.atI (fs.map (deedT nm)) (i : Int) = some (deedT nm d) := by rw [atI_natCast]; exact T
    have N := ixN_natCast (n := fs.length) (k := i) hi
    refine ⟨[some x, some (.ref S.length), some (.ref (S.length + 1)), some (.int ((es.map (Ev.d nm)).length : Nat)), some ((Ev.en h a).d nm), some (.int (i : Nat))], S'.set S.length (.lst ((fs.map (deedT nm)).set i (deedT nm ⟨d.h, d.w, d.b, some (a, es.length)⟩))), ?_, g.set (Nat.le_refl _), by rw [setAt l1, map_set_ext], ⟨kvs, by rw [at_set_ne (by omega)]; exact h3, by simp; omega, fun j d' hd' he' => ?_⟩, by simp; omega, _, _, _, rfl⟩
    · rw [List.map_append, List.map_singleton, enumD_snoc]
      refine h1.snoc (e1 := [some x, some (.ref S.length), some (.ref (S.length + 1)), some (.int ((es.map (Ev.d nm)).length : Nat)), some ((Ev.en h a).d nm), c1]) (S1 := S') (by simp) (.inl ?_) grd_none
      have D1 : deedT nm d = .tup [.int d.h, .str nm, verbD d.w, oD d.w, ansE d.e, .int (d.b : Int), endE d.e] := rfl
      rw [D1] at T2
      simp [l_deeds_0, Ev.d, h2, h3, F, T2, cut4, newT_ok, gAdd_tup_ok, N, deedT, ansE, endE]
    · by_cases q : j = i
      · subst q
        rw [List.getElem?_set_self hi] at hd'
        cases hd'
        cases he'
      · rw [List.getElem?_set_ne (Ne.symm q)] at hd'
        exact h5 j d' hd' he'
theorem deeds_spec {wr : Int} {nm : Str} {es : List Ev} {fs : List Dd} {S : Sto} {x : D} (r : Run wr es fs) (hl : es.length ≤ 1000) :
    ∃ S', m_deeds [.tup [x, .tup (es.map (Ev.d nm))]] S = .ok (.ref S.length) S' ∧ Gr S S' ∧ S'[S.length]? = some (.lst (fs.map (deedT nm))) := by
  obtain ⟨e, S', h1, g, h2, _, _, a, b, c, rfl⟩ := deeds_lp (nm := nm) (S := S) (x := .tup [x, .tup (es.map (Ev.d nm))]) r hl
  refine ⟨S', ?_, g, h2⟩
  have := h1.run
  simp [m_deeds, b_deeds, runB_eq, dFor_eq, this]
/-! plain_deeds -/
def wrO (d : Dd) : Option Wr := d.w.map fun w => (w, (d.b : Int), d.e.map fun p => (p.2 : Int))
def wlF (fs : List Dd) : List Wr := (0, -2, some (-1)) :: fs.filterMap wrO
def rdD (r : Nat × Int × Nat × Nat) : D := .tup [.int (r.1 : Int), .int r.2.1, .int (r.2.2.1 : Int), .int (r.2.2.2 : Int)]
theorem wlF_snoc {fs : List Dd} {d : Dd} : wlF (fs ++ [d]) = wlF fs ++ (wrO d).toList := by
  unfold wlF
  rw [List.filterMap_append, List.cons_append]
  congr 2
theorem wlF_keys {fs : List Dd} {w : Int} : w ∈ (wlF fs).map (·.1) ↔ w = 0 ∨ ∃ d ∈ fs, d.w = some w := by
  unfold wlF wrO
  simp only [List.map_cons, List.mem_cons, List.mem_map, List.mem_filterMap, Option.map_eq_some_iff]
  constructor
  · rintro (h | ⟨r, ⟨d, hd, w', h1, rfl⟩, rfl⟩)
    · exact .inl h
    · exact .inr ⟨d, hd, h1⟩
  · rintro (h | ⟨d, hd, h⟩)
    · exact .inl h
    · exact .inr ⟨_, ⟨d, hd, w, h, rfl⟩, rfl⟩
theorem Good.keys {wr : Int} {es : List Ev} {fs : List Dd} (g : Good wr es fs) : ((wlF fs).map (·.1)).Nodup := by
  have h1 : ∀ {l : List Dd}, (l.Pairwise fun d d' => ∀ w, d.w = some w → d'.w ≠ some w) → ((l.filterMap wrO).map (·.1)).Nodup := by
    intro l hl
    induction l with
    | nil => simp
    | cons d l ih =>
      rw [List.pairwise_cons] at hl
      rw [List.filterMap_cons]
      cases h : d.w with
      | none => simp only [wrO, h, Option.map_none]; exact ih hl.2
      | some w =>
        simp only [wrO, h, Option.map_some, List.map_cons, List.nodup_cons]
        refine ⟨fun hm => ?_, ih hl.2⟩
        obtain ⟨r, hr, e⟩ := List.mem_map.mp hm
        obtain ⟨d', hd', e'⟩ := List.mem_filterMap.mp hr
        unfold wrO at e'
        obtain ⟨w', q, rfl⟩ := Option.map_eq_some_iff.mp e'
        dsimp only at e
        subst e
        exact hl.1 d' hd' w' h q
  unfold wlF
  rw [List.map_cons, List.nodup_cons]
  refine ⟨fun hm => ?_, h1 (g.apart.imp fun h => h.2.2)⟩
  obtain ⟨r, hr, e⟩ := List.mem_map.mp hm
  obtain ⟨d', hd', e'⟩ := List.mem_filterMap.mp hr
  unfold wrO at e'
  obtain ⟨w', q, rfl⟩ := Option.map_eq_some_iff.mp e'
  exact ((g.beg d' hd').2.1 w' q).2.2 e
theorem wlD_app {a b : List Wr} : wlD (a ++ b) = wlD a ++ wlD b := by unfold wlD; simp
theorem plain_spec {wr : Int} {nm : Str} {es : List Ev} {fs : List Dd} {S : Sto} (r : Run wr es fs) (hl : es.length ≤ 1000) :
    ∃ S', m_plain_deeds [.tup [.tup [.tup [.str nm, .str "register"]], .tup (es.map (Ev.d nm))]] S = .ok (.tup [.ref S.length, .ref (S.length + 1)]) S' ∧ Gr S S' ∧ S'[S.length]? = some (.dict (wlD (wlF fs))) ∧ S'[S.length + 1]? = some (.lst ((rds fs 0).map rdD)) := by
  have g := r.good
  generalize hx : D.tup [.tup [.str nm, .str "register"]] = x
  obtain ⟨S1, e1, g1, h1⟩ := deeds_spec (nm := nm) (S := S ++ [.dict (wlD (wlF [])), .lst []]) (x := x) r hl
  have hL : (S ++ [O.dict (wlD (wlF [])), .lst []]).length = S.length + 2 := by simp
  rw [hL] at e1 h1
  have f1 : fs.length ≤ es.length := by obtain ⟨_, _, _, _, _, _, q, _⟩ := deeds_lp (nm := nm) (S := S) (x := x) r hl; exact q
  obtain ⟨e, S', h3, h4⟩ := forL_inv (gd := [(S.length + 2, .lst (fs.map (deedT nm)))]) (t := sTup 2 (sCons (sName 3) (sCons (sTup 7 (sCons (sName 4) (sCons (sName 5) (sCons (sName 6) (sCons (sName 7) (sCons (sName 8) (sCons (sName 9) (sCons (sName 10) sNil)))))))) sNil))) (f := l_plain_deeds_0) (items := enumD (fs.map (deedT nm)))
    (env := [some (.tup [x, .tup (es.map (Ev.d nm))]), some (.ref S.length), some (.ref (S.length + 1)), none, none, none, none, none, none, none, none]) (S := S1)
    (fun i e S' => Gr S S' ∧ S'[S.length]? = some (.dict (wlD (wlF (fs.take i)))) ∧ S'[S.length + 1]? = some (.lst ((rds (fs.take i) 0).map rdD)) ∧ S'[S.length + 2]? = some (.lst (fs.map (deedT nm))) ∧
      ∃ a b c d f h j k, e = [some (.tup [x, .tup (es.map (Ev.d nm))]), some (.ref S.length), some (.ref (S.length + 1)), a, b, c, d, f, h, j, k])
    (fun i e S' hP => grd_some hP.2.2.2.1)
    (fun i it e S' hd ⟨q1, q2, q3, q4, a, b, c, d0, f, h0, j, k, he⟩ => by
      obtain ⟨y, hy, rfl⟩ := enumD_get hd
      rw [List.getElem?_map] at hy
      obtain ⟨d, hd2, rfl⟩ := Option.map_eq_some_iff.mp hy
      have hm : d ∈ fs := List.mem_of_getElem? hd2
      have hi : i < fs.length := (List.getElem?_eq_some_iff.mp hd2).1
      have tk : fs.take (i + 1) = fs.take i ++ [d] := by rw [List.take_add_one, hd2]; rfl
      have tl : (fs.take i).length = i := by rw [List.length_take]; omega
      subst he
      have l1 := lt_at q2
      have l2 := lt_at q3
      have q5 := @Good.keys
      have ng : ∀ w, d.w = some w → findK (wlD (wlF (fs.take i))) (.int w) = none := fun w hw => by
        rw [findK_none]
        intro p hp
        unfold wlD at hp
        obtain ⟨r, hr, rfl⟩ := List.mem_map.mp hp
        intro e
        injection e with e
        have : w ∈ (wlF (fs.take i)).map (·.1) := e ▸ List.mem_map_of_mem hr
        rcases wlF_keys.mp this with z | ⟨d', hd', z⟩
        · exact ((g.beg d hm).2.1 w hw).2.2 z
        · obtain ⟨k, hk⟩ := List.mem_iff_getElem?.mp hd'
          have k1 : k < i := by have := (List.getElem?_eq_some_iff.mp hk).1; omega
          rw [List.getElem?_take_of_lt k1] at hk
          have A := List.pairwise_iff_getElem.mp g.apart k i (List.getElem?_eq_some_iff.mp hk).1 hi k1
          rw [(List.getElem?_eq_some_iff.mp hk).2, (List.getElem?_eq_some_iff.mp hd2).2] at A
          exact A.2.2 w z hw
      have wl1 : (wlD (wlF (fs.take i))).length ≤ 1001 := by
        unfold wlD wlF
        rw [List.length_map, List.length_cons]
        have := List.length_filterMap_le wrO (fs.take i)
        omega
      have rl1 : ((rds (fs.take i) 0).map rdD).length ≤ 1000 := by
        have : ∀ (l : List Dd) (n : Nat), (rds l n).length ≤ l.length := by
          intro l
          induction l with
          | nil => intro n; simp [rds]
          | cons d l ih =>
            intro n
            have := ih (n + 1)
            have o : (rdO d n).toList.length ≤ 1 := by cases rdO d n <;> simp
            simp only [rds, List.length_append, List.length_cons]
            omega
        have := this (fs.take i) 0
        rw [List.length_map]; omega
      have T : sTup 2 (sCons (sName 3) (sCons (sTup 7 (sCons (sName 4) (sCons (sName 5) (sCons (sName 6) (sCons (sName 7) (sCons (sName 8) (sCons (sName 9) (sCons (sName 10) sNil)))))))) sNil)) (.tup [.int (i : Nat), deedT nm d]) [some (.tup [x, .tup (es.map (Ev.d nm))]), some (.ref S.length), some (.ref (S.length + 1)), a, b, c, d0, f, h0, j, k] S' =
          .ok [some (.tup [x, .tup (es.map (Ev.d nm))]), some (.ref S.length), some (.ref (S.length + 1)), some (.int (i : Nat)), some (.int d.h), some (.str nm), some (verbD d.w), some (oD d.w), some (ansE d.e), some (.int (d.b : Int)), some (endE d.e)] S' := by simp [deedT]
      rw [tk, wlF_snoc, rds_snoc, tl]
      cases hw : d.w with
      | some w =>
        have ng := ng w hw
        have pd : putD (wlD (wlF (fs.take i))) (.int w) (.tup [.int (d.b : Int), endE d.e]) = wlD (wlF (fs.take i) ++ (wrO d).toList) := by
          rw [putD_new (findK_none.mp ng), wlD_app]
          congr 1
          unfold wrO wlD
          rw [hw]
          cases d.e <;> rfl
        have rd0 : rdO d i = none := by unfold rdO; rw [hw]
        have ins := gIn_dict (S := S') (k := .int w) q2 rfl
        rw [ng] at ins
        rw [hw] at T
        refine ⟨_, _, [some (.tup [x, .tup (es.map (Ev.d nm))]), some (.ref S.length), some (.ref (S.length + 1)), some (.int (i : Nat)), some (.int d.h), some (.str nm), some (verbD (some w)), some (oD (some w)), some (ansE d.e), some (.int (d.b : Int)), some (endE d.e)], S'.set S.length (.dict (wlD (wlF (fs.take i) ++ (wrO d).toList))), T, .inl ?_, q1.set (Nat.le_refl _), setAt l1 _, by rw [at_set_ne (by omega), rd0]; simpa using q3, by rw [at_set_ne (by omega)]; exact q4, _, _, _, _, _, _, _, _, rfl⟩
        have k1 : (wlD (wlF (fs.take i))).length < lim := by unfold lim; omega
        cases he : d.e with
        | none =>
          rw [he] at pd
          simp [l_plain_deeds_0, verbD, oD, ansE, endE, ins, q2, k1, newT_ok] at pd ⊢
          rw [pd]
        | some ae =>
          obtain ⟨an, en⟩ := ae
          rw [he] at pd
          have an0 := (g.fin d hm an en he).2.2
          rw [hw] at an0
          cases an with
          | some _ => cases an0
          | none =>
            simp [l_plain_deeds_0, verbD, oD, ansE, anD, endE, ins, q2, k1, newT_ok] at pd ⊢
            rw [pd]
      | none =>
        have wr0 : wrO d = none := by unfold wrO; rw [hw]; rfl
        rw [hw] at T
        cases he : d.e with
        | none =>
          have rd0 : rdO d i = none := by unfold rdO; rw [hw, he]
          rw [he] at T
          refine ⟨_, _, [some (.tup [x, .tup (es.map (Ev.d nm))]), some (.ref S.length), some (.ref (S.length + 1)), some (.int (i : Nat)), some (.int d.h), some (.str nm), some (verbD none), some (oD none), some (ansE none), some (.int (d.b : Int)), some (endE none)], S', T, .inl (by simp [l_plain_deeds_0, verbD, endE]), q1, by rw [wr0]; simpa using q2, by rw [rd0]; simpa using q3, q4, _, _, _, _, _, _, _, _, rfl⟩
        | some ae =>
          obtain ⟨an, en⟩ := ae
          have an0 := (g.fin d hm an en he).2.2
          rw [hw] at an0
          cases an with
          | none => cases an0
          | some an =>
            have rd0 : rdO d i = some (i, an, d.b, en) := by unfold rdO; rw [hw, he]
            rw [he] at T
            have ap := gAppend_ok (y := rdD (i, an, d.b, en)) q3 (by omega)
            refine ⟨_, _, _, S'.set (S.length + 1) (.lst ((rds (fs.take i) 0).map rdD ++ [rdD (i, an, d.b, en)])), T, .inl (by simp [l_plain_deeds_0, verbD, endE, ansE, anD, newT_ok, q3]; simp [rdD] at ap ⊢; rw [ap]; rfl), q1.set (by omega), by rw [at_set_ne (by omega), wr0]; simpa using q2, by rw [rd0, setAt l2]; simp, by rw [at_set_ne (by omega)]; exact q4, _, _, _, _, _, _, _, _, rfl⟩)
    ⟨((Gr.app S _).trans g1), by simpa using g1.at (k := S.length) (o := .dict (wlD (wlF []))) (by simp), by simpa [rds] using g1.at (k := S.length + 1) (o := .lst []) (by simp), h1, none, none, none, none, none, none, none, none, rfl⟩
  rw [enumD_len, List.length_map, List.take_length] at h4
  obtain ⟨q1, q2, q3, q4, a, b, c, d0, f, h0, j, k, rfl⟩ := h4
  refine ⟨S', ?_, q1, q2, q3⟩
  have w0 : mergeD [] [(D.int 0, D.tup [.int (-2), .int (-1)])] = wlD (wlF []) := rfl
  have en := enumAny_lst h1
  subst hx
  simp [m_plain_deeds, b_plain_deeds, runB_eq, dFor_eq, newT_ok, dictR_ok, c_FIRST_BEGIN, c_FIRST_END, w0, e1, en, h3]

theorem gIn_lstI {ms : List Int} {w : Int} {n : Nat} {S : Sto} (h : S[n]? = some (.lst (ms.map D.int))) : gIn (.int w) (.ref n) S = .ok (.bl (decide (w ∈ ms))) S := by
  unfold gIn inD; simp only [h]
  unfold listIn
  rw [if_pos flat_ints, any_int]
theorem gNotIn_lstI {ms : List Int} {w : Int} {n : Nat} {S : Sto} (h : S[n]? = some (.lst (ms.map D.int))) : gNotIn (.int w) (.ref n) S = .ok (.bl (!decide (w ∈ ms))) S := by
  unfold gNotIn inD; simp only [h]
  unfold listIn
  rw [if_pos flat_ints, any_int]
def taleD (nm : Str) (es : List Ev) : D := .tup [.tup [.tup [.str nm, .str "register"]], .tup (es.map (Ev.d nm))]
theorem one_spec {wr : Int} {nm : Str} {es : List Ev} {fs : List Dd} {S : Sto} (r : Run wr es fs) (hl : es.length ≤ 1000) :
    ∃ S', m_written_by_one [taleD nm es] S = .ok (.tup [.ref S.length, .ref (S.length + 1)]) S' ∧ Gr S S' ∧ S'[S.length]? = some (.dict (wlD (wlF fs))) ∧ S'[S.length + 1]? = some (.lst ((rds fs 0).map rdD)) := by
  have g := r.good
  obtain ⟨S1, e1, g1, a1, b1⟩ := plain_spec (nm := nm) (S := S) r hl
  obtain ⟨S2, e2, g2, h2⟩ := deeds_spec (nm := nm) (S := S1 ++ [.dict []]) (x := .tup [.tup [.str nm, .str "register"]]) r hl
  have hL : (S1 ++ [O.dict []]).length = S1.length + 1 := by simp
  rw [hL] at e2 h2
  have l1 : S.length + 1 < S1.length := lt_at b1
  have T : taleD nm es = .tup [.tup [.tup [.str nm, .str "register"]], .tup (es.map (Ev.d nm))] := rfl
  rw [← T] at e1 e2
  generalize taleD nm es = t at *
  obtain ⟨e, S', h3, h4⟩ := forL_inv (gd := [(S1.length + 1, .lst (fs.map (deedT nm)))]) (t := sName 4) (f := l_written_by_one_0) (items := fs.map (deedT nm)) (env := [some t, some (.ref S.length), some (.ref (S.length + 1)), some (.ref S1.length), none]) (S := S2)
    (fun i e S' => Gr S1 S' ∧ S'[S1.length + 1]? = some (.lst (fs.map (deedT nm))) ∧ (∃ ks : List Int, S'[S1.length]? = some (.dict (dk ks)) ∧ (ks = [] ∨ ks = [wr])) ∧ ∃ a, e = [some t, some (.ref S.length), some (.ref (S.length + 1)), some (.ref S1.length), a])
    (fun i e S' hP => grd_some hP.2.1)
    (fun i it e S' hd ⟨q1, q2, ⟨ks, q3, q4⟩, a, he⟩ => by
      rw [List.getElem?_map] at hd
      obtain ⟨d, hd2, rfl⟩ := Option.map_eq_some_iff.mp hd
      have hm : d ∈ fs := List.mem_of_getElem? hd2
      subst he
      cases hw : d.w with
      | none => exact ⟨_, _, [some t, some (.ref S.length), some (.ref (S.length + 1)), some (.ref S1.length), some (deedT nm d)], S', rfl, .inl (by simp [l_written_by_one_0, deedT, hw, verbD]), q1, q2, ⟨ks, q3, q4⟩, _, rfl⟩
      | some w =>
        have hr : d.h = wr := g.wr hm (by rw [hw]; simp)
        have k1 : (dk ks).length < lim := by rw [dk_len]; unfold lim; rcases q4 with rfl | rfl <;> simp
        have pd : putD (dk ks) (.int wr) (.bl true) = dk [wr] := by
          rcases q4 with rfl | rfl
          · exact dk_new (by simp)
          · exact dk_put (by simp)
        refine ⟨_, _, [some t, some (.ref S.length), some (.ref (S.length + 1)), some (.ref S1.length), some (deedT nm d)], S'.set S1.length (.dict (dk [wr])), rfl, .inl ?_, q1.set (Nat.le_refl _), by rw [at_set_ne (by omega)]; exact q2, ⟨[wr], setAt (lt_at q3) _, .inr rfl⟩, _, rfl⟩
        simp [l_written_by_one_0, deedT, hw, verbD, hr, q3, k1, pd])
    ⟨(Gr.app S1 _).trans g2, h2, ⟨[], g2.at (by simp [dk]), .inl rfl⟩, none, rfl⟩
  obtain ⟨q1, q2, ⟨ks, q3, q4⟩, a, rfl⟩ := h4
  have kl : ks.length ≤ 1 := by rcases q4 with rfl | rfl <;> simp
  have kn : ¬ (1 : Int) < ks.length := by omega
  refine ⟨S', ?_, g1.trans q1, q1.at a1, q1.at b1⟩
  simp [m_written_by_one, b_written_by_one, runB_eq, dFor_eq, e1, e2, h2, h3, q3, dk_len, kn, newT_ok]

/-! written_by_one, is_regular, is_safe -/
theorem wrs_fold {p : Nat} : ∀ {l : List Dd} {x lt : Int}, (∀ d ∈ l, lt < d.b) → (l.Pairwise fun d d' => d.b < d'.b) → ((l.filterMap wrO).foldl (lwS p) (x, some lt)).1 = l.foldl (fun x d => (endW p d).getD x) x
  | [], _, _, _, _ => rfl
  | d :: l, x, lt, h1, h2 => by
    rw [List.pairwise_cons] at h2
    have hd := h1 d List.mem_cons_self
    have hl : ∀ d' ∈ l, lt < d'.b := fun d' h => h1 d' (List.mem_cons_of_mem _ h)
    have hl2 : ∀ d' ∈ l, (d.b : Int) < d'.b := fun d' h => by have := h2.1 d' h; omega
    rw [List.foldl_cons, List.filterMap_cons]
    unfold endW
    cases hw : d.w with
    | none => simp only [wrO, hw, Option.map_none, Option.getD_none]; exact wrs_fold hl h2.2
    | some w =>
      simp only [wrO, hw, Option.map_some, List.foldl_cons]
      cases he : d.e with
      | none => simp only [Option.map_none, lwS, Option.getD_none]; exact wrs_fold hl h2.2
      | some ae =>
        obtain ⟨a, e⟩ := ae
        simp only [Option.map_some, lwS]
        by_cases c : e < p
        · rw [if_pos c, if_pos ⟨by omega, by simpa using hd⟩]; exact wrs_fold hl2 h2.2
        · rw [if_neg c, if_neg (fun z => c (by have := z.1; omega))]; exact wrs_fold hl h2.2
theorem Good.lastP {wr : Int} {es : List Ev} {fs : List Dd} (g : Good wr es fs) {p : Nat} : ((wlF fs).foldl (lwS p) (0, none)).1 = lastW fs p := by
  unfold wlF lastW
  rw [List.foldl_cons]
  have : lwS p (0, none) (0, -2, some (-1)) = (0, some (-2)) := by
    unfold lwS
    dsimp only
    rw [if_pos ⟨by omega, rfl⟩]
  rw [this]
  exact wrs_fold (fun d _ => by omega) (g.apart.imp fun h => h.1)
theorem besP {fs : List Dd} {b f : Nat} : ((wlF fs).filter (bwP b f)).map (·.1) = besW fs b f := by
  unfold wlF besW
  rw [List.filter_cons, if_neg (by unfold bwP; simp)]
  induction fs with
  | nil => rfl
  | cons d l ih =>
    rw [List.filterMap_cons, List.filterMap_cons]
    cases hw : d.w with
    | none => simp only [wrO, besO, hw, Option.map_none]; exact ih
    | some w =>
      simp only [wrO, hw, Option.map_some, List.filter_cons]
      cases he : d.e with
      | none =>
        by_cases c : d.b < f
        · simp [bwP, besO, hw, he, c, ih]
        · simp [bwP, besO, hw, he, c, ih]
      | some ae =>
        obtain ⟨a, e⟩ := ae
        by_cases c : d.b < f ∧ b < e
        · simp [bwP, besO, hw, he, c.1, c.2, ih]
        · by_cases c1 : d.b < f
          · have c2 : ¬ b < e := fun z => c ⟨c1, z⟩
            simp [bwP, besO, hw, he, c1, c2, ih]
          · simp [bwP, besO, hw, he, c1, ih]
theorem isreg_spec {wr : Int} {nm : Str} {es : List Ev} {fs : List Dd} {S : Sto} (r : Run wr es fs) (hl : es.length ≤ 1000) :
    ∃ S', m_is_regular [taleD nm es] S = .ok (.bl ((rds fs 0).all fun r => decide (isRg fs r))) S' ∧ Gr S S' := by
  have g := r.good
  obtain ⟨S1, e1, g1, a1, b1⟩ := one_spec (nm := nm) (S := S) r hl
  have f1 : (wlF fs).length ≤ 1000 + 1 := by
    have : fs.length ≤ es.length := by obtain ⟨_, _, _, _, _, _, q, _⟩ := deeds_lp (nm := nm) (S := S) (x := .non) r hl; exact q
    have := List.length_filterMap_le wrO fs
    unfold wlF; simp; omega
  obtain ⟨A, B⟩ := forL_all (h := rdD) (gd := [(S.length + 1, .lst ((rds fs 0).map rdD))]) (t := sTup 4 (sCons (sName 3) (sCons (sName 4) (sCons (sName 5) (sCons (sName 6) sNil))))) (f := l_is_regular_0) (p := fun r => decide (isRg fs r)) (z := .bl false)
    (fun e S' => Gr S1 S' ∧ ∃ a b c d, e = [some (taleD nm es), some (.ref S.length), some (.ref (S.length + 1)), a, b, c, d]) (fun S' => Gr S1 S') (fun e S' hP => grd_some (hP.1.at b1))
    (items := rds fs 0) (env := [some (taleD nm es), some (.ref S.length), some (.ref (S.length + 1)), none, none, none, none]) (S := S1)
    (fun rr hr e S' ⟨q1, a, b, c, d, he⟩ => by
      subst he
      obtain ⟨n, an, bb, ff⟩ := rr
      have L := fun (S' : Sto) (q : S'[S.length]? = some (.dict (wlD (wlF fs)))) => lwritten_spec (p := (bb : Int)) g.keys q
      have W := fun (S' : Sto) (q : S'[S.length]? = some (.dict (wlD (wlF fs)))) => wbeside_spec (b := (bb : Int)) (f := (ff : Int)) g.keys f1 q
      rw [g.lastP] at L
      rw [besP] at W
      have L1 := L S' (q1.at a1)
      have W1 := W S' (q1.at a1)
      have N := gNotIn_lstI (w := an) (n := S'.length) (S := S' ++ [.lst ((besW fs bb ff).map D.int)]) (ms := besW fs bb ff) (by simp)
      refine ⟨[some (taleD nm es), some (.ref S.length), some (.ref (S.length + 1)), some (.int (n : Nat)), some (.int an), some (.int (bb : Nat)), some (.int (ff : Nat))], S', by simp [rdD], fun hp => ?_, fun hp => ?_⟩
      · have hp : isRg fs (n, an, bb, ff) := by simpa using hp
        by_cases c : an = lastW fs bb
        · exact ⟨[some (taleD nm es), some (.ref S.length), some (.ref (S.length + 1)), some (.int (n : Nat)), some (.int an), some (.int (bb : Nat)), some (.int (ff : Nat))], S', by simp [l_is_regular_0, L1, c], q1, _, _, _, _, rfl⟩
        · have c2 : an ∈ besW fs bb ff := hp.resolve_left c
          exact ⟨[some (taleD nm es), some (.ref S.length), some (.ref (S.length + 1)), some (.int (n : Nat)), some (.int an), some (.int (bb : Nat)), some (.int (ff : Nat))], S' ++ [.lst ((besW fs bb ff).map D.int)], by simp [l_is_regular_0, L1, W1, N, c, c2], q1.trans (Gr.app _ _), _, _, _, _, rfl⟩
      · have hp : ¬ isRg fs (n, an, bb, ff) := by simpa using hp
        have c : ¬ an = lastW fs bb := fun z => hp (.inl z)
        have c2 : ¬ an ∈ besW fs bb ff := fun z => hp (.inr z)
        exact ⟨S' ++ [.lst ((besW fs bb ff).map D.int)], by simp [l_is_regular_0, L1, W1, N, c, c2], q1.trans (Gr.app _ _)⟩)
    ⟨Gr.refl _, none, none, none, none, rfl⟩
  cases hall : (rds fs 0).all fun r => decide (isRg fs r) with
  | true =>
    obtain ⟨e, S', h, q, a, b, c, d, rfl⟩ := A hall
    exact ⟨S', by simp [m_is_regular, b_is_regular, runB_eq, dFor_eq, e1, b1, h], g1.trans q⟩
  | false =>
    obtain ⟨S', h, q⟩ := B hall
    exact ⟨S', by simp [m_is_regular, b_is_regular, runB_eq, dFor_eq, e1, b1, h], g1.trans q⟩
theorem issafe_spec {wr : Int} {nm : Str} {es : List Ev} {fs : List Dd} {S : Sto} (r : Run wr es fs) (hl : es.length ≤ 1000) :
    ∃ S', m_is_safe [taleD nm es] S = .ok (.bl ((rds fs 0).all fun r => decide (isSf fs r))) S' ∧ Gr S S' := by
  have g := r.good
  obtain ⟨S1, e1, g1, a1, b1⟩ := one_spec (nm := nm) (S := S) r hl
  have f1 : (wlF fs).length ≤ 1000 + 1 := by
    have : fs.length ≤ es.length := by obtain ⟨_, _, _, _, _, _, q, _⟩ := deeds_lp (nm := nm) (S := S) (x := .non) r hl; exact q
    have := List.length_filterMap_le wrO fs
    unfold wlF; simp; omega
  obtain ⟨A, B⟩ := forL_all (h := rdD) (gd := [(S.length + 1, .lst ((rds fs 0).map rdD))]) (t := sTup 4 (sCons (sName 3) (sCons (sName 4) (sCons (sName 5) (sCons (sName 6) sNil))))) (f := l_is_safe_0) (p := fun r => decide (isSf fs r)) (z := .bl false)
    (fun e S' => Gr S1 S' ∧ ∃ a b c d, e = [some (taleD nm es), some (.ref S.length), some (.ref (S.length + 1)), a, b, c, d]) (fun S' => Gr S1 S') (fun e S' hP => grd_some (hP.1.at b1))
    (items := rds fs 0) (env := [some (taleD nm es), some (.ref S.length), some (.ref (S.length + 1)), none, none, none, none]) (S := S1)
    (fun rr hr e S' ⟨q1, a, b, c, d, he⟩ => by
      subst he
      obtain ⟨n, an, bb, ff⟩ := rr
      have L := fun (S' : Sto) (q : S'[S.length]? = some (.dict (wlD (wlF fs)))) => lwritten_spec (p := (bb : Int)) g.keys q
      have W := fun (S' : Sto) (q : S'[S.length]? = some (.dict (wlD (wlF fs)))) => wbeside_spec (b := (bb : Int)) (f := (ff : Int)) g.keys f1 q
      rw [g.lastP] at L
      rw [besP] at W
      have W1 := W S' (q1.at a1)
      have L1 := L (S' ++ [.lst ((besW fs bb ff).map D.int)] ++ [.lst []]) (app_at (app_at (q1.at a1)))
      have N := gEq_nil (n := S'.length) (m := (S' ++ [O.lst ((besW fs bb ff).map D.int)]).length) (S := S' ++ [.lst ((besW fs bb ff).map D.int)] ++ [.lst []]) (ns := besW fs bb ff) (app_at (by simp)) (by simp)
      generalize hT : S' ++ [O.lst ((besW fs bb ff).map D.int)] = T at *
      have qT : Gr S1 T := by rw [← hT]; exact q1.trans (Gr.app _ _)
      refine ⟨[some (taleD nm es), some (.ref S.length), some (.ref (S.length + 1)), some (.int (n : Nat)), some (.int an), some (.int (bb : Nat)), some (.int (ff : Nat))], S', by simp [rdD], fun hp => ?_, fun hp => ?_⟩
      · have hp : isSf fs (n, an, bb, ff) := by simpa using hp
        refine ⟨[some (taleD nm es), some (.ref S.length), some (.ref (S.length + 1)), some (.int (n : Nat)), some (.int an), some (.int (bb : Nat)), some (.int (ff : Nat))], T ++ [.lst []], ?_, qT.trans (Gr.app _ _), _, _, _, _, rfl⟩
        by_cases c : besW fs bb ff = []
        · have c2 : an = lastW fs bb := hp.resolve_right fun z => z c
          simp [l_is_safe_0, W1, N, c, L1, c2]
        · simp [l_is_safe_0, W1, N, c]
      · have hp : ¬ isSf fs (n, an, bb, ff) := by simpa using hp
        have c : ¬ an = lastW fs bb := fun z => hp (.inl z)
        have c2 : besW fs bb ff = [] := Classical.byContradiction fun z => hp (.inr z)
        exact ⟨T ++ [.lst []], by simp [l_is_safe_0, W1, N, c2, L1, c], qT.trans (Gr.app _ _)⟩)
    ⟨Gr.refl _, none, none, none, none, rfl⟩
  cases hall : (rds fs 0).all fun r => decide (isSf fs r) with
  | true =>
    obtain ⟨e, S', h, q, a, b, c, d, rfl⟩ := A hall
    exact ⟨S', by simp [m_is_safe, b_is_safe, runB_eq, dFor_eq, e1, b1, h], g1.trans q⟩
  | false =>
    obtain ⟨S', h, q⟩ := B hall
    exact ⟨S', by simp [m_is_safe, b_is_safe, runB_eq, dFor_eq, e1, b1, h], g1.trans q⟩

/-! turn_about: the first pair of reads -/
def First (P : Nat → Nat → Prop) : Option (Nat × Nat) → Prop
  | none => ∀ i j, ¬ P i j
  | some (i, j) => P i j ∧ ∀ a b, P a b → i < a ∨ (i = a ∧ j ≤ b)
theorem First.uniq {P : Nat → Nat → Prop} {o o' : Option (Nat × Nat)} (h : First P o) (h' : First P o') : o = o' := by
  cases o with
  | none =>
    cases o' with
    | none => rfl
    | some p => obtain ⟨i, j⟩ := p; exact absurd h'.1 (h i j)
  | some p =>
    obtain ⟨i, j⟩ := p
    cases o' with
    | none => exact absurd h.1 (h' i j)
    | some q =>
      obtain ⟨k, l⟩ := q
      have a := h.2 k l h'.1
      have b := h'.2 i j h.1
      have : i = k ∧ j = l := by omega
      rw [this.1, this.2]
abbrev Rd := Nat × Int × Nat × Nat
/-- the begin of the write of a worth; of nought ahead of all -/
def stF (fs : List Dd) (a : Int) : Option Int := if a = 0 then some (-1) else (fs.find? fun d => decide (d.w = some a)).map fun d => (d.b : Int)
def ltO : Option Int → Option Int → Bool
  | some s, some s' => decide (s' < s)
  | _, _ => false
def qP (fs : List Dd) (r r' : Rd) : Bool := decide (r.2.2.2 < r'.2.2.1) && ltO (stF fs r.2.1) (stF fs r'.2.1)
def Pf (fs : List Dd) (i j : Nat) : Prop := ∃ r r', r ∈ rds fs 0 ∧ r' ∈ rds fs 0 ∧ r.1 = i ∧ r'.1 = j ∧ qP fs r r' = true
theorem rds_ge {x : Rd} : ∀ {fs : List Dd} {i : Nat}, x ∈ rds fs i → i ≤ x.1
  | d :: r, i, h => by
    rw [rds, List.mem_append] at h
    rcases h with h | h
    · unfold rdO at h
      split at h
      · simp at h; subst h; exact Nat.le_refl _
      · simp at h
    · have := rds_ge h; omega
theorem rds_pw : ∀ {fs : List Dd} {i : Nat}, (rds fs i).Pairwise fun a b => a.1 < b.1
  | [], _ => .nil
  | d :: r, i => by
    rw [rds, List.pairwise_append]
    refine ⟨?_, rds_pw, fun a ha b hb => ?_⟩
    · cases rdO d i <;> simp
    · have h1 := rds_ge hb
      unfold rdO at ha
      split at ha
      · simp at ha; subst ha; exact h1
      · simp at ha
theorem rds_at {x : Rd} : ∀ {fs : List Dd} {i : Nat}, x ∈ rds fs i ↔ ∃ d, fs[x.1 - i]? = some d ∧ i ≤ x.1 ∧ rdO d x.1 = some x
  | [], i => by simp [rds]
  | d :: r, i => by
    rw [rds, List.mem_append, rds_at (fs := r)]
    constructor
    · rintro (h | ⟨d', h1, h2, h3⟩)
      · have q : rdO d i = some x := by simpa using h
        have e : x.1 = i := by
          unfold rdO at q
          split at q
          · cases q; rfl
          · cases q
        exact ⟨d, by rw [e]; simp, by omega, by rw [e]; exact q⟩
      · refine ⟨d', ?_, by omega, h3⟩
        rw [show x.1 - i = (x.1 - (i + 1)) + 1 by omega]
        simpa using h1
    · rintro ⟨d', h1, h2, h3⟩
      by_cases e : x.1 = i
      · rw [e] at h1 h3
        simp at h1
        subst h1
        exact .inl (by rw [h3]; simp)
      · refine .inr ⟨d', ?_, by omega, h3⟩
        rw [show x.1 - i = (x.1 - (i + 1)) + 1 by omega] at h1
        simpa using h1
def knw (fs : List Dd) : List Rd := (rds fs 0).filter fun r => (stF fs r.2.1).isSome
def pairF (fs : List Dd) : Option (Nat × Nat) := match (knw fs).find? fun r => ((knw fs).find? fun r' => qP fs r r').isSome with
  | none => none
  | some r => ((knw fs).find? fun r' => qP fs r r').map fun r' => (r.1, r'.1)
theorem qP_knw {fs : List Dd} {r r' : Rd} (h : r ∈ rds fs 0) (h' : r' ∈ rds fs 0) (q : qP fs r r' = true) : r ∈ knw fs ∧ r' ∈ knw fs := by
  unfold qP at q
  rw [Bool.and_eq_true] at q
  have q2 := q.2
  unfold knw
  rw [List.mem_filter, List.mem_filter]
  cases e : stF fs r.2.1 with
  | none => rw [e] at q2; simp [ltO] at q2
  | some s =>
    cases e' : stF fs r'.2.1 with
    | none => rw [e, e'] at q2; simp [ltO] at q2
    | some s' => exact ⟨⟨h, by rfl⟩, h', by rfl⟩
theorem pairF_first {fs : List Dd} : First (Pf fs) (pairF fs) := by
  have pw : (knw fs).Pairwise fun a b => a.1 < b.1 := rds_pw.filter _
  have sub : ∀ {r}, r ∈ knw fs → r ∈ rds fs 0 := fun h => (List.mem_filter.mp h).1
  unfold pairF
  cases h1 : (knw fs).find? fun r => ((knw fs).find? fun r' => qP fs r r').isSome with
  | none =>
    rintro i j ⟨r, r', m, m', _, _, q⟩
    obtain ⟨k, k'⟩ := qP_knw m m' q
    have a := List.find?_eq_none.mp h1 r k
    cases h2 : (knw fs).find? fun r' => qP fs r r' with
    | none => exact absurd q (by simpa using List.find?_eq_none.mp h2 r' k')
    | some x => rw [h2] at a; exact a rfl
  | some r =>
    obtain ⟨p, as, bs, e, n⟩ := List.find?_eq_some_iff_append.mp h1
    dsimp only
    cases h2 : (knw fs).find? fun r' => qP fs r r' with
    | none => rw [h2] at p; cases p
    | some r' =>
      obtain ⟨p', cs, ds, e', n'⟩ := List.find?_eq_some_iff_append.mp h2
      have mr : r ∈ knw fs := by rw [e]; simp
      have mr' : r' ∈ knw fs := by rw [e']; simp
      refine ⟨⟨r, r', sub mr, sub mr', rfl, rfl, p'⟩, ?_⟩
      rintro a b ⟨x, x', m, m', rfl, rfl, q⟩
      obtain ⟨k, k'⟩ := qP_knw m m' q
      rw [e] at pw k
      rw [List.pairwise_append, List.pairwise_cons] at pw
      rcases List.mem_append.mp k with k | k
      · have z := n x k
        cases h3 : (knw fs).find? fun r' => qP fs x r' with
        | none => exact absurd q (by simpa using List.find?_eq_none.mp h3 x' k')
        | some y => rw [h3] at z; cases z
      · rcases List.mem_cons.mp k with rfl | k
        · refine .inr ⟨rfl, ?_⟩
          have pw' : (knw fs).Pairwise fun a b => a.1 < b.1 := rds_pw.filter _
          rw [e'] at pw' k'
          rw [List.pairwise_append, List.pairwise_cons] at pw'
          rcases List.mem_append.mp k' with k' | k'
          · have z := n' x' k'
            rw [q] at z; cases z
          · rcases List.mem_cons.mp k' with rfl | k'
            · exact Nat.le_refl _
            · exact Nat.le_of_lt (pw'.2.1.1 x' k')
        · exact .inl (pw.2.1.1 x k)
/-! the program's way there -/
theorem forL_find {α : Type} {h : α → D} {gd : List (Nat × O)} {t : DG} {f : DS} {p : α → Bool} {z : α → D} (I : RL.Env → RL.Sto → Prop) (J : RL.Sto → Prop) (hg : ∀ e S, I e S → Grd gd S) :
    ∀ {items : List α} {env : RL.Env} {S : RL.Sto}, (∀ d ∈ items, ∀ e S, I e S → ∃ e1 S1, t (h d) e S = .ok e1 S1 ∧ (p d = false → ∃ e2 S2, f e1 S1 = .nx e2 S2 ∧ I e2 S2) ∧ (p d = true → ∃ S2, f e1 S1 = .rt (z d) S2 ∧ J S2)) → I env S →
    (items.find? p = none → ∃ e S', forL gd t f (items.map h) env S = .nx e S' ∧ I e S') ∧ (∀ d, items.find? p = some d → ∃ S', forL gd t f (items.map h) env S = .rt (z d) S' ∧ J S')
  | [], env, S, _, i => ⟨fun _ => ⟨env, S, forL_nil (hg _ _ i), i⟩, fun d q => by cases q⟩
  | d :: r, env, S, hh, i => by
    obtain ⟨e1, S1, h1, h2, h3⟩ := hh d List.mem_cons_self env S i
    rw [List.map_cons, forL_cons (hg _ _ i) h1, List.find?_cons]
    cases hp : p d with
    | false =>
      obtain ⟨e2, S2, h4, i2⟩ := h2 hp
      rw [h4]
      exact forL_find I J hg (fun x hx => hh x (List.mem_cons_of_mem _ hx)) i2
    | true =>
      obtain ⟨S2, h4, j⟩ := h3 hp
      rw [h4]
      exact ⟨fun q => (by cases q), fun _ q => (by cases q; exact ⟨S2, rfl, j⟩)⟩
theorem stF_find {fs : List Dd} (h0 : ∀ d ∈ fs, d.w ≠ some 0) {a : Int} : (stF fs a = none → findK (wlD (wlF fs)) (.int a) = none) ∧ ∀ s, stF fs a = some s → ∃ z, findK (wlD (wlF fs)) (.int a) = some (.tup [.int (if a = 0 then -2 else s), z]) ∧ (a = 0 → s = -1) ∧ (a ≠ 0 → 0 ≤ s) := by
  unfold stF wlF
  rw [show wlD ((0, -2, some (-1)) :: fs.filterMap wrO) = (.int 0, .tup [.int (-2), oD (some (-1))]) :: wlD (fs.filterMap wrO) from rfl, findK_cons]
  by_cases c : a = 0
  · subst c
    simp
  · rw [if_neg c, if_neg (fun z => c (by injection z with z; exact z.symm))]
    have : ∀ (l : List Dd), ((l.find? fun d => decide (d.w = some a)) = none → findK (wlD (l.filterMap wrO)) (.int a) = none) ∧ ∀ d, (l.find? fun d => decide (d.w = some a)) = some d → ∃ z, findK (wlD (l.filterMap wrO)) (.int a) = some (.tup [.int (d.b : Int), z]) := by
      intro l
      induction l with
      | nil => exact ⟨fun _ => rfl, fun d h => by cases h⟩
      | cons x l ih =>
        rw [List.find?_cons, List.filterMap_cons]
        cases hw : x.w with
        | none =>
          simp only [wrO, hw, Option.map_none]
          simpa using ih
        | some w =>
          simp only [wrO, hw, Option.map_some]
          rw [show wlD ((w, (x.b : Int), x.e.map fun p => (p.2 : Int)) :: l.filterMap wrO) = (.int w, .tup [.int (x.b : Int), oD (x.e.map fun p => (p.2 : Int))]) :: wlD (l.filterMap wrO) from rfl, findK_cons]
          by_cases q : w = a
          · subst q
            simp
          · rw [if_neg (fun z => q (by injection z))]
            simpa [q] using ih
    obtain ⟨A, B⟩ := this fs
    constructor
    · intro h
      exact A (by simpa using h)
    · intro s h
      obtain ⟨d, hd, rfl⟩ := Option.map_eq_some_iff.mp h
      obtain ⟨z, hz⟩ := B d hd
      exact ⟨z, by rw [if_neg c]; exact hz, fun z => absurd z c, fun _ => by omega⟩
def pairD : Option (Nat × Nat) → D
  | none => .non
  | some (i, j) => .tup [.int (i : Int), .int (j : Int)]
theorem turn_in {S : RL.Sto} {fs : List Dd} {n k : Nat} {x0 x2 : D} {r : Rd} {y12 y8 y9 y10 y11 : Option D} (h0 : ∀ d ∈ fs, d.w ≠ some 0) (hr : (stF fs r.2.1).isSome = true) (hn : S[n]? = some (.dict (wlD (wlF fs)))) (hk : S[k]? = some (.lst ((knw fs).map rdD))) :
    (((knw fs).find? fun r' => qP fs r r') = none → ∃ z8 z9 z10 z11, l_turn_about_1 [some x0, some (.ref n), some x2, some (.ref k), some (.int (r.1 : Int)), some (.int r.2.1), some (.int (r.2.2.1 : Int)), some (.int (r.2.2.2 : Int)), y8, y9, y10, y11, y12] S = .nx [some x0, some (.ref n), some x2, some (.ref k), some (.int (r.1 : Int)), some (.int r.2.1), some (.int (r.2.2.1 : Int)), some (.int (r.2.2.2 : Int)), z8, z9, z10, z11, y12] S) ∧
    (∀ r', ((knw fs).find? fun r' => qP fs r r') = some r' → l_turn_about_1 [some x0, some (.ref n), some x2, some (.ref k), some (.int (r.1 : Int)), some (.int r.2.1), some (.int (r.2.2.1 : Int)), some (.int (r.2.2.2 : Int)), y8, y9, y10, y11, y12] S = .rt (.tup [.int (r.1 : Int), .int (r'.1 : Int)]) S) := by
  obtain ⟨i, a, b, e⟩ := r
  dsimp only at hr ⊢
  obtain ⟨s, hs⟩ := Option.isSome_iff_exists.mp hr
  obtain ⟨z, f1, f2, f3⟩ := (stF_find h0).2 s hs
  generalize hjb : (b : Int) = jb
  generalize hje : (e : Int) = je
  generalize hji : (i : Int) = ji
  have key := forL_find (h := rdD) (gd := [(k, .lst ((knw fs).map rdD))]) (t := sTup 4 (sCons (sName 8) (sCons (sName 9) (sCons (sName 10) (sCons (sName 11) sNil))))) (f := l_turn_about_0) (p := fun r' => qP fs (i, a, b, e) r') (z := fun r' => .tup [.int ji, .int (r'.1 : Int)])
    (fun ev S' => S' = S ∧ ∃ y8 y9 y10 y11, ev = [some x0, some (.ref n), some x2, some (.ref k), some (.int ji), some (.int a), some (.int jb), some (.int je), y8, y9, y10, y11, y12]) (fun S' => S' = S) (fun _ _ hP => by rw [hP.1]; exact grd_some hk)
    (items := knw fs) (env := [some x0, some (.ref n), some x2, some (.ref k), some (.int ji), some (.int a), some (.int jb), some (.int je), y8, y9, y10, y11, y12]) (S := S)
    (fun r' hr' ev S' ⟨hS, z8, z9, z10, z11, hev⟩ => by
      subst hS; subst hev
      have hk' := (List.mem_filter.mp hr').2
      obtain ⟨i', a', b', e'⟩ := r'
      dsimp only at hk'
      obtain ⟨s', hs'⟩ := Option.isSome_iff_exists.mp hk'
      obtain ⟨z', g1, g2, g3⟩ := (stF_find h0).2 s' hs'
      have q : qP fs (i, a, b, e) (i', a', b', e') = (decide (je < (b' : Int)) && decide ((if a' = 0 then -2 else s') < (if a = 0 then -2 else s))) := by
        unfold qP
        dsimp only
        rw [hs, hs']
        have : decide (e < b') = decide (je < (b' : Int)) := by rw [← hje]; rw [Bool.eq_iff_iff]; simp
        rw [this]
        congr 1
        unfold ltO
        rw [Bool.eq_iff_iff, decide_eq_true_iff, decide_eq_true_iff]
        by_cases c : a = 0 <;> by_cases c' : a' = 0
        · have := f2 c; have := g2 c'; simp [c, c']; omega
        · have := f2 c; have := g3 c'; simp [c, c']; omega
        · have := f3 c; have := g2 c'; simp [c, c']; omega
        · simp [c, c']
      generalize hjb' : (b' : Int) = jb' at *
      refine ⟨[some x0, some (.ref n), some x2, some (.ref k), some (.int ji), some (.int a), some (.int jb), some (.int je), some (.int (i' : Int)), some (.int a'), some (.int (b' : Int)), some (.int (e' : Int)), y12], S', by simp [rdD], fun hq => ⟨[some x0, some (.ref n), some x2, some (.ref k), some (.int ji), some (.int a), some (.int jb), some (.int je), some (.int (i' : Int)), some (.int a'), some (.int (b' : Int)), some (.int (e' : Int)), y12], S', ?_, rfl, _, _, _, _, rfl⟩, fun hq => ⟨S', ?_, rfl⟩⟩
      · rw [q] at hq
        rw [hjb']
        by_cases c : je < jb'
        · have c2 : ¬ (if a' = 0 then -2 else s') < (if a = 0 then -2 else s) := by simpa [c] using hq
          simp [l_turn_about_0, c, hn, f1, g1, c2]
        · simp [l_turn_about_0, c]
      · rw [q] at hq
        rw [hjb']
        rw [Bool.and_eq_true, decide_eq_true_iff, decide_eq_true_iff] at hq
        simp [l_turn_about_0, hq.1, hn, f1, g1, hq.2, newT_ok])
    ⟨rfl, _, _, _, _, rfl⟩
  have dF := fun t b => dForN_lst (i := 3) (n := k) (t := t) (b := b) (env := [some x0, some (.ref n), some x2, some (.ref k), some (.int ji), some (.int a), some (.int jb), some (.int je), y8, y9, y10, y11, y12]) (S := S) rfl hk
  constructor
  · intro h
    obtain ⟨ev, S', h1, rfl, z8, z9, z10, z11, rfl⟩ := key.1 h
    exact ⟨z8, z9, z10, z11, by unfold l_turn_about_1; rw [dF, h1]⟩
  · intro r' h
    obtain ⟨S', h1, rfl⟩ := key.2 r' h
    unfold l_turn_about_1; rw [dF, h1]
theorem turn_run {t : D} {S S1 S2 : RL.Sto} {v : D} {n m : Nat} {es : List D} (e1 : m_written_by_one [t] S = .ok (.tup [.ref n, .ref m]) S1) (hm : S1[m]? = some (.lst es)) (hl : es.length ≤ 1000)
    {L : List D} (lc : lcL [(m, .lst es)] (cTarget (.inl 12)) (dT (dBin gIn (dBin gIx (dV 12) (dC (.int 1))) (dV 1))) (dV 12) (wipeE [some t, some (.ref n), some (.ref m), none, none, none, none, none, none, none, none, none, none] [12]) es S1 = .ok L S1)
    (h : (dForN 3 (sTup 4 (sCons (sName 4) (sCons (sName 5) (sCons (sName 6) (sCons (sName 7) sNil))))) l_turn_about_1 [some t, some (.ref n), some (.ref m), some (.ref S1.length), none, none, none, none, none, none, none, none, none] (S1 ++ [.lst L])) = .rt v S2 ∨ (v = .non ∧ ∃ e, dForN 3 (sTup 4 (sCons (sName 4) (sCons (sName 5) (sCons (sName 6) (sCons (sName 7) sNil))))) l_turn_about_1 [some t, some (.ref n), some (.ref m), some (.ref S1.length), none, none, none, none, none, none, none, none, none] (S1 ++ [.lst L]) = .nx e S2)) :
    m_turn_about [t] S = .ok v S2 := by
  have hl' : es.length ≤ lim := by unfold lim; omega
  rcases h with h | ⟨rfl, e, h⟩
  · simp [m_turn_about, b_turn_about, runB_eq, e1, hm, dLc_eq, hl', lc, h]
  · simp [m_turn_about, b_turn_about, runB_eq, e1, hm, dLc_eq, hl', lc, h]
theorem turn_spec {wr : Int} {nm : Str} {es : List Ev} {fs : List Dd} {S : RL.Sto} (r : Run wr es fs) (hl : es.length ≤ 900) :
    ∃ S', m_turn_about [taleD nm es] S = .ok (pairD (pairF fs)) S' ∧ Gr S S' := by
  have g := r.good
  have h0 : ∀ d ∈ fs, d.w ≠ some 0 := fun d hd z => ((g.beg d hd).2.1 0 z).2.2 rfl
  have f1 : fs.length ≤ es.length := by obtain ⟨_, _, _, _, _, _, q, _⟩ := deeds_lp (nm := nm) (S := S) (x := .non) r (by omega); exact q
  have rl : ∀ (l : List Dd) (n : Nat), (rds l n).length ≤ l.length := by
    intro l
    induction l with
    | nil => intro n; simp [rds]
    | cons d l ih =>
      intro n
      have := ih (n + 1)
      have o : (rdO d n).toList.length ≤ 1 := by cases rdO d n <;> simp
      simp only [rds, List.length_append, List.length_cons]
      omega
  obtain ⟨S1, e1, g1, a1, b1⟩ := one_spec (nm := nm) (S := S) r (by omega)
  generalize taleD nm es = t at *
  have lc := lcL_map (h := rdD) (g := rdD) (gd := [(S.length + 1, .lst ((rds fs 0).map rdD))]) (c := cTarget (.inl 12)) (t := dT (dBin gIn (dBin gIx (dV 12) (dC (.int 1))) (dV 1))) (f := dV 12) (S := S1) (p := fun r => (stF fs r.2.1).isSome) (items := rds fs 0) (env := wipeE [some t, some (.ref S.length), some (.ref (S.length + 1)), none, none, none, none, none, none, none, none, none, none] [12]) (grd_some b1) (fun rr hrr => by
    obtain ⟨i, a, b, e⟩ := rr
    refine ⟨[some t, some (.ref S.length), some (.ref (S.length + 1)), none, none, none, none, none, none, none, none, none, some (rdD (i, a, b, e))], rfl, ?_, fun _ => by simp⟩
    have I := gIn_dict (k := .int a) a1 rfl
    have : (findK (wlD (wlF fs)) (.int a)).isSome = (stF fs a).isSome := by
      cases q : stF fs a with
      | none => rw [(stF_find h0).1 q]; rfl
      | some s => obtain ⟨z, hz, _⟩ := (stF_find h0).2 s q; rw [hz]; rfl
    rw [this] at I
    simp [rdD, I])
  have hk : (S1 ++ [O.lst ((knw fs).map rdD)])[S1.length]? = some (.lst ((knw fs).map rdD)) := by simp
  have hn : (S1 ++ [O.lst ((knw fs).map rdD)])[S.length]? = some (.dict (wlD (wlF fs))) := app_at a1
  have gA : Gr S (S1 ++ [O.lst ((knw fs).map rdD)]) := g1.trans (Gr.app _ _)
  have hlen : ((rds fs 0).map rdD).length ≤ 1000 := by rw [List.length_map]; have := rl fs 0; omega
  have run := fun (v : D) (S2 : RL.Sto) => turn_run (v := v) (S2 := S2) e1 b1 hlen lc
  change ∀ (v : D) (S2 : RL.Sto), (dForN 3 (sTup 4 (sCons (sName 4) (sCons (sName 5) (sCons (sName 6) (sCons (sName 7) sNil))))) l_turn_about_1 [some t, some (.ref S.length), some (.ref (S.length + 1)), some (.ref S1.length), none, none, none, none, none, none, none, none, none] (S1 ++ [.lst ((knw fs).map rdD)])) = .rt v S2 ∨ (v = .non ∧ ∃ e, dForN 3 (sTup 4 (sCons (sName 4) (sCons (sName 5) (sCons (sName 6) (sCons (sName 7) sNil))))) l_turn_about_1 [some t, some (.ref S.length), some (.ref (S.length + 1)), some (.ref S1.length), none, none, none, none, none, none, none, none, none] (S1 ++ [.lst ((knw fs).map rdD)]) = .nx e S2) → m_turn_about [t] S = .ok v S2 at run
  generalize hA : S1 ++ [O.lst ((knw fs).map rdD)] = A at *
  have key := forL_find (h := rdD) (gd := [(S1.length, .lst ((knw fs).map rdD))]) (t := sTup 4 (sCons (sName 4) (sCons (sName 5) (sCons (sName 6) (sCons (sName 7) sNil))))) (f := l_turn_about_1) (p := fun r => ((knw fs).find? fun r' => qP fs r r').isSome) (z := fun r => pairD (((knw fs).find? fun r' => qP fs r r').map fun r' => (r.1, r'.1)))
    (fun ev S' => S' = A ∧ ∃ y4 y5 y6 y7 y8 y9 y10 y11 y12, ev = [some t, some (.ref S.length), some (.ref (S.length + 1)), some (.ref S1.length), y4, y5, y6, y7, y8, y9, y10, y11, y12]) (fun S' => S' = A) (fun _ _ hP => by rw [hP.1]; exact grd_some hk)
    (items := knw fs) (env := [some t, some (.ref S.length), some (.ref (S.length + 1)), some (.ref S1.length), none, none, none, none, none, none, none, none, none]) (S := A)
    (fun rr hrr ev S' ⟨hS, y4, y5, y6, y7, y8, y9, y10, y11, y12, hev⟩ => by
      subst hS; subst hev
      have hks := (List.mem_filter.mp hrr).2
      obtain ⟨T1, T2⟩ := turn_in (x0 := t) (x2 := .ref (S.length + 1)) (r := rr) (y12 := y12) (y8 := y8) (y9 := y9) (y10 := y10) (y11 := y11) h0 hks hn hk
      refine ⟨_, S', rfl, fun hq => ?_, fun hq => ?_⟩
      · have q : ((knw fs).find? fun r' => qP fs rr r') = none := by simpa [-List.find?_eq_none, -List.find?_isSome] using hq
        obtain ⟨z8, z9, z10, z11, h⟩ := T1 q
        exact ⟨_, S', h, rfl, _, _, _, _, _, _, _, _, _, rfl⟩
      · obtain ⟨r', q⟩ := Option.isSome_iff_exists.mp hq
        refine ⟨S', ?_, rfl⟩
        rw [q]
        exact T2 r' q)
    ⟨rfl, none, none, none, none, none, none, none, none, none, rfl⟩
  have dF := fun t' b => dForN_lst (i := 3) (n := S1.length) (t := t') (b := b) (env := [some t, some (.ref S.length), some (.ref (S.length + 1)), some (.ref S1.length), none, none, none, none, none, none, none, none, none]) (S := A) rfl hk
  refine ⟨A, run _ _ ?_, gA⟩
  unfold pairF
  cases hf : (knw fs).find? fun r => ((knw fs).find? fun r' => qP fs r r').isSome with
  | none =>
    obtain ⟨e, S', h1, rfl, _⟩ := key.1 hf
    exact .inr ⟨rfl, e, by rw [dF]; exact h1⟩
  | some r0 =>
    obtain ⟨S', h1, rfl⟩ := key.2 r0 hf
    exact .inl (by rw [dF]; exact h1)

/-! the tale's making -/
theorem gIx_letter {t : Int} {S : Sto} (h0 : 0 ≤ t) (h1 : t < 26) : ∃ c : Str, c.length = 1 ∧ (∀ x ∈ c.cps.toList, x < 1114112) ∧ gIx (.str "abcdefghijklmnopqrstuvwxyz") (.int t) S = .ok (.str c) S := by
  have hl : (Str.ofString "abcdefghijklmnopqrstuvwxyz").cps.toList.length = 26 := by decide +kernel
  obtain ⟨d, hd, hm⟩ := atI_mem (xs := (Str.ofString "abcdefghijklmnopqrstuvwxyz").cps.toList) h0 (by rw [hl]; exact h1)
  have ha : ∀ x ∈ (Str.ofString "abcdefghijklmnopqrstuvwxyz").cps.toList, x < 1114112 := by decide +kernel
  refine ⟨⟨#[d]⟩, rfl, fun x hx => by rw [List.mem_singleton.mp hx]; exact ha d hm, ?_⟩
  have h2 : (Str.ofString "abcdefghijklmnopqrstuvwxyz").length ≤ lim := by decide +kernel
  show (if (Str.ofString "abcdefghijklmnopqrstuvwxyz").length ≤ lim then (match L2.atI (Str.ofString "abcdefghijklmnopqrstuvwxyz").cps.toList t with
    | some c => R.ok (D.str ⟨#[c]⟩) S
    | none => .err) else .err) = _
  rw [if_pos h2, hd]
theorem name_run {n : Nat} {j : Int} {b : Nat} {S S1 S' : Sto} {v : D} {x y z : Option D} (e1 : m_law_take [.ref n, .int 8] S = .ok (.int j) S1) (r1 : rg1 [.int (1 + j)] S1 = .ok ⟨rangeD 0 b, []⟩ S1)
    (h1 : forL [] (sName 3) l_law_name_0 (rangeD 0 b) [some (.ref n), some (.str "abcdefghijklmnopqrstuvwxyz"), some (.str ""), none] S1 = .nx [x, y, some v, z] S') : m_law_name [.ref n] S = .ok v S' := by
  simp [m_law_name, b_law_name, runB_eq, dFor_eq, e1, r1, h1]
theorem name_spec2 {S : Sto} {n : Nat} (hR : RowAt S n) : ∃ (nm : Str) (S' : Sto), m_law_name [.ref n] S = .ok (.str nm) S' ∧ (1 ≤ nm.length ∧ nm.length ≤ 8 ∧ ∀ x ∈ nm.cps.toList, x < 1114112) ∧ RowAt S' n ∧ Keep n S S' := by
  obtain ⟨t, S1, e1, t0, t1, R1, K1⟩ := take_spec hR (m := 8) (by omega) (by decide)
  have ht : (1 + t) = (((1 + t).toNat : Nat) : Int) := by omega
  have r1 : rg1 [.int (1 + t)] S1 = .ok ⟨rangeD 0 (1 + t).toNat, []⟩ S1 := by
    have := rg1_nat (b := (1 + t).toNat) (S := S1) (by omega)
    rwa [← ht] at this
  have key := forL_inv (gd := []) (t := sName 3) (f := l_law_name_0) (items := rangeD 0 (1 + t).toNat) (env := [some (.ref n), some (.str "abcdefghijklmnopqrstuvwxyz"), some (.str ""), none]) (S := S1)
    (fun i e S' => (∃ (nm : Str) (x : Option D), (nm.length = i ∧ ∀ x ∈ nm.cps.toList, x < 1114112) ∧ e = [some (.ref n), some (.str "abcdefghijklmnopqrstuvwxyz"), some (.str nm), x]) ∧ RowAt S' n ∧ Keep n S1 S') (fun _ _ _ _ => grd_none)
    (fun i d e S' hd ⟨⟨nm, x, ⟨hn, hx⟩, he⟩, R, K⟩ => by
      obtain ⟨hi, rfl⟩ := rangeD_at hd
      subst he
      obtain ⟨u, S2, e2, u0, u1, R2, K2⟩ := take_spec R (m := 26) (by omega) (by decide)
      obtain ⟨c, hc, hcx, ec⟩ := gIx_letter (S := S2) u0 u1
      refine ⟨_, _, [some (.ref n), some (.str "abcdefghijklmnopqrstuvwxyz"), some (.str (nm ++ c)), some (.int (0 + (i : Nat)))], S2, rfl, .inl ?_, ⟨nm ++ c, _, ?_, rfl⟩, R2, K.trans K2⟩
      · have a := gAdd_str_ok (S := S2) (a := nm) (b := c) (by omega)
        simp [l_law_name_0, e2, ec, a]
      · have : (nm ++ c).length = nm.length + c.length := by
          show (nm.cps ++ c.cps).size = _
          rw [Array.size_append]; rfl
        refine ⟨by omega, fun x hxx => ?_⟩
        have e : (nm ++ c).cps.toList = nm.cps.toList ++ c.cps.toList := Array.toList_append
        rw [e] at hxx
        rcases List.mem_append.mp hxx with h | h
        · exact hx x h
        · exact hcx x h)
    ⟨⟨"", none, ⟨rfl, fun x hx => (nomatch hx)⟩, rfl⟩, R1, Keep.refl _ _⟩
  obtain ⟨e, S', h1, ⟨nm, x, ⟨hn, hx⟩, rfl⟩, R, K⟩ := key
  rw [rangeD_len] at hn
  exact ⟨nm, S', name_run e1 r1 h1, ⟨by omega, by omega, hx⟩, R, K1.trans K⟩
theorem name_spec {S : Sto} {n : Nat} (hR : RowAt S n) : ∃ (nm : Str) (S' : Sto), m_law_name [.ref n] S = .ok (.str nm) S' ∧ nm.length ≤ 8 ∧ RowAt S' n ∧ Keep n S S' := by
  obtain ⟨nm, S', h1, h2, h3⟩ := name_spec2 hR
  exact ⟨nm, S', h1, h2.2.1, h3⟩
/-! a worth that is not used -/
def cand (w : Int) (j : Nat) : Int := (w + 1000000000 + j) % 2000000001 - 1000000000
def inB (w : Int) : Prop := -1000000000 ≤ w ∧ w ≤ 1000000000
theorem sub_len : ∀ {l m : List Int}, l.Nodup → (∀ x ∈ l, x ∈ m) → l.length ≤ m.length
  | [], _, _, _ => Nat.zero_le _
  | x :: l, m, nd, h => by
    rw [List.nodup_cons] at nd
    obtain ⟨a, b, rfl⟩ := List.append_of_mem (h x List.mem_cons_self)
    have := sub_len (m := a ++ b) nd.2 fun y hy => by
      have := h y (List.mem_cons_of_mem _ hy)
      simp only [List.mem_append, List.mem_cons] at this ⊢
      rcases this with h1 | rfl | h1
      · exact .inl h1
      · exact absurd hy nd.1
      · exact .inr h1
    simp at this ⊢
    omega
theorem cand_free {us : List Int} {w : Int} (hl : us.length ≤ 1000) : ∃ j, j ≤ us.length ∧ cand w j ∉ us := by
  refine Classical.byContradiction fun hc => ?_
  have h : ∀ j, j ≤ us.length → cand w j ∈ us := fun j hj => Classical.byContradiction fun z => hc ⟨j, hj, z⟩
  have nd : ((List.range (us.length + 1)).map (cand w)).Nodup := by
    unfold List.Nodup
    rw [List.pairwise_map]
    refine (List.pairwise_lt_range (n := us.length + 1)).imp_of_mem fun {a b} ha hb hab => ?_
    rw [List.mem_range] at ha hb
    unfold cand
    omega
  have := sub_len nd fun x hx => by
    obtain ⟨j, hj, rfl⟩ := List.mem_map.mp hx
    rw [List.mem_range] at hj
    exact h j (by omega)
  simp at this
  omega
theorem fresh_while {us : List Int} {n m : Nat} {S : Sto} (hm : S[m]? = some (.dict (dk us))) : ∀ {k fuel : Nat} {w : Int}, inB w → (∃ j, j ≤ k ∧ cand w j ∉ us) → k < fuel →
    ∃ w', dWhileN (dT (dBin gIn (dV 2) (dV 1))) l_law_fresh_0 fuel [some (.ref n), some (.ref m), some (.int w)] S = .nx [some (.ref n), some (.ref m), some (.int w')] S ∧ w' ∉ us ∧ inB w' := by
  intro k
  induction k with
  | zero =>
    intro fuel w hw hj hf
    obtain ⟨j, hj, hu⟩ := hj
    obtain ⟨f, rfl⟩ : ∃ f, fuel = f + 1 := ⟨fuel - 1, by omega⟩
    have : j = 0 := by omega
    subst this
    have : cand w 0 = w := by unfold cand; unfold inB at hw; omega
    rw [this] at hu
    exact ⟨w, by rw [dWhileN_eq]; simp [gIn_dk hm, hu], hu, hw⟩
  | succ k ih =>
    intro fuel w hw hj hf
    obtain ⟨f, rfl⟩ : ∃ f, fuel = f + 1 := ⟨fuel - 1, by omega⟩
    by_cases hu : w ∈ us
    · have hb : inB (if w + 1 > 1000000000 then -1000000000 else w + 1) := by unfold inB at hw ⊢; split <;> omega
      obtain ⟨w', h1, h2, h3⟩ := ih (fuel := f) hb (by
        obtain ⟨j, hj, hc⟩ := hj
        cases j with
        | zero =>
          exact absurd hu (by have : cand w 0 = w := by unfold cand; unfold inB at hw; omega
                              rwa [this] at hc)
        | succ j =>
          refine ⟨j, by omega, ?_⟩
          have : cand (if w + 1 > 1000000000 then -1000000000 else w + 1) j = cand w (j + 1) := by
            unfold cand; unfold inB at hw; split <;> omega
          rwa [this]) (by omega)
      refine ⟨w', ?_, h2, h3⟩
      rw [dWhileN_eq]
      by_cases c : w + 1 > 1000000000
      · rw [if_pos c] at h1
        have c' : 1000000000 < w + 1 := c
        unfold l_law_fresh_0 at h1 ⊢
        simp [gIn_dk hm, hu, c', h1]
      · rw [if_neg c] at h1
        have c' : ¬ 1000000000 < w + 1 := c
        unfold l_law_fresh_0 at h1 ⊢
        simp [gIn_dk hm, hu, c', h1]
    · exact ⟨w, by rw [dWhileN_eq]; simp [gIn_dk hm, hu], hu, hw⟩
theorem fresh_spec {S : Sto} {n m : Nat} {us : List Int} (hR : RowAt S n) (hm : S[m]? = some (.dict (dk us))) (hn : m ≠ n) (hl : us.length ≤ 1000) :
    ∃ (w : Int) (S1 : Sto), m_law_fresh [.ref n, .ref m] S = .ok (.int w) (S1.set m (.dict (dk (us ++ [w])))) ∧ w ∉ us ∧ inB w ∧ RowAt S1 n ∧ Keep n S S1 := by
  obtain ⟨i, S1, e1, i0, i1, R1, K1⟩ := worth_spec hR
  have hm1 := K1.at hm hn
  obtain ⟨w, h1, h2, h3⟩ := fresh_while (n := n) (fuel := 1000000) hm1 (k := us.length) (w := i) ⟨i0, i1⟩ (cand_free hl) (by omega)
  refine ⟨w, S1, ?_, h2, h3, R1, K1⟩
  have k1 : (dk us).length < lim := by rw [dk_len]; unfold lim; omega
  simp [m_law_fresh, b_law_fresh, runB_eq, e1, h1, hm1, k1, dk_new h2]
theorem answer_spec {S : Sto} {n m : Nat} {ws : List Int} (hR : RowAt S n) (hm : S[m]? = some (.lst (ws.map D.int))) (hn : m ≠ n) (h0 : ws ≠ []) :
    ∃ (a : Int) (S' : Sto), m_law_answer [.ref n, .ref m] S = .ok (.int a) S' ∧ RowAt S' n ∧ Keep n S S' := by
  obtain ⟨t, S1, e1, t0, t1, R1, K1⟩ := take_spec hR (m := 9) (by omega) (by decide)
  by_cases h8 : t = 8
  · obtain ⟨i, S2, e2, i0, i1, R2, K2⟩ := worth_spec R1
    obtain ⟨j, S3, e3, j0, j1, R3, K3⟩ := worth_spec R2
    obtain ⟨u, S4, e4, u0, u1, R4, K4⟩ := take_spec (R3.app [.lst [.int i, .int j, .int 1000000000000, .int (-1000000000000), .int 1000000001]]) (m := 5) (by omega) (by decide)
    have hS4 : S4[S3.length]? = some (.lst [.int i, .int j, .int 1000000000000, .int (-1000000000000), .int 1000000001]) := K4.at (by simp) (by have := R3.ne; omega)
    obtain ⟨d, hd, hm⟩ := atI_mem (xs := [D.int i, .int j, .int 1000000000000, .int (-1000000000000), .int 1000000001]) u0 (by simpa using u1)
    have : ∃ a, d = .int a := by
      simp at hm
      rcases hm with rfl | rfl | rfl | rfl | rfl <;> exact ⟨_, rfl⟩
    obtain ⟨a, rfl⟩ := this
    refine ⟨a, S4, ?_, R4, (((K1.trans K2).trans K3).trans (Keep.app ..)).trans K4⟩
    simp [m_law_answer, b_law_answer, runB_eq, e1, h8, e2, e3, newL_ok, e4, hS4, hd]
  · obtain ⟨u, S2, e2, u0, u1, R2, K2⟩ := take_spec R1 (m := 24) (by omega) (by decide)
    have hm2 := (K1.trans K2).at hm hn
    obtain ⟨d, hd, hmm⟩ := atI_mem (xs := [D.int 0, .int 0, .int 0, .int 0, .int 1, .int 1, .int 2, .int u]) t0 (by simp; omega)
    have : ∃ b, d = .int b ∧ 0 ≤ b := by
      simp at hmm
      rcases hmm with rfl | rfl | rfl | rfl
      · exact ⟨0, rfl, by omega⟩
      · exact ⟨1, rfl, by omega⟩
      · exact ⟨2, rfl, by omega⟩
      · exact ⟨u, rfl, u0⟩
    obtain ⟨b, rfl, b0⟩ := this
    have hlen : 0 < ws.length := List.length_pos_iff.mpr h0
    obtain ⟨x, hx, hxm⟩ := atI_mem (xs := ws.map D.int) (i := if (ws.length : Int) - 1 - b > 0 then (ws.length : Int) - 1 - b else 0) (by split <;> omega) (by rw [List.length_map]; split <;> omega)
    obtain ⟨a, _, rfl⟩ := List.mem_map.mp hxm
    simp only [gt_iff_lt, Int.sub_pos] at hx
    refine ⟨a, S2 ++ [.lst [.int 0, .int 0, .int 0, .int 0, .int 1, .int 1, .int 2, .int u]], ?_, R2.app _, (K1.trans K2).trans (Keep.app ..)⟩
    have hm3 : (S2 ++ [O.lst [.int 0, .int 0, .int 0, .int 0, .int 1, .int 1, .int 2, .int u]])[m]? = some (.lst (ws.map D.int)) := app_at hm2
    have hS3 : (S2 ++ [O.lst [.int 0, .int 0, .int 0, .int 0, .int 1, .int 1, .int 2, .int u]])[S2.length]? = some (.lst [.int 0, .int 0, .int 0, .int 0, .int 1, .int 1, .int 2, .int u]) := by simp
    generalize hT : S2 ++ [O.lst [.int 0, .int 0, .int 0, .int 0, .int 1, .int 1, .int 2, .int u]] = T at *
    simp [m_law_answer, b_law_answer, runB_eq, e1, h8, e2, newL_ok, hT, hS3, hd, hm3, hx]

/-! the events -/
theorem RowAt.set {S : Sto} {n m : Nat} {o : O} (h : RowAt S n) (hm : n ≠ m) : RowAt (S.set m o) n := by
  obtain ⟨a, w, c, h, q⟩ := h
  exact ⟨a, w, c, by rw [at_set_ne hm]; exact h, q⟩
def Busy (kvs : List (D × D)) (fs : List Dd) : Prop := ∀ h : Int, (findK kvs (.int h) = none ∧ idle h fs) ∨ ∃ (i : Nat) (d : Dd), findK kvs (.int h) = some (verbD d.w) ∧ fs[i]? = some d ∧ d.h = h ∧ d.e = none
structure EI (N : Nat) (nm : Str) (wr : Int) (S' : RL.Sto) (i : Nat) (es : List Ev) (fs : List Dd) (us ws : List Int) (kvs : List (D × D)) : Prop where
  run : Run wr es fs
  el : es.length ≤ i
  su : S'[N]? = some (O.dict (dk us))
  ul : us.length ≤ i + 1
  u0 : (0 : Int) ∈ us
  uw : ∀ d ∈ fs, ∀ w, d.w = some w → w ∈ us
  sw : S'[N + 1]? = some (O.lst (ws.map D.int))
  w0 : ws ≠ []
  wl : ws.length ≤ i + 1
  sb : S'[N + 2]? = some (O.dict kvs)
  bl : kvs.length ≤ i
  bu : Busy kvs fs
  se : S'[N + 3]? = some (O.lst (es.map (Ev.d nm)))
theorem Busy.beg {kvs : List (D × D)} {fs : List Dd} {d : Dd} (b : Busy kvs fs) (he : d.e = none) : Busy (putD kvs (.int d.h) (verbD d.w)) (fs ++ [d]) := by
  intro h
  by_cases q : h = d.h
  · subst q
    exact .inr ⟨fs.length, d, by rw [findK_putD, if_pos rfl], by simp, rfl, he⟩
  · have q' : ¬ D.int h = D.int d.h := fun z => q (by injection z)
    rw [findK_putD, if_neg q']
    rcases b h with ⟨b1, b2⟩ | ⟨i, d', b1, b2, b3, b4⟩
    · refine .inl ⟨b1, fun x hx hh => ?_⟩
      rcases List.mem_append.mp hx with hx | hx
      · exact b2 x hx hh
      · rw [List.mem_singleton.mp hx] at hh; exact absurd hh.symm q
    · exact .inr ⟨i, d', b1, by rw [List.getElem?_append_left (List.getElem?_eq_some_iff.mp b2).1]; exact b2, b3, b4⟩
theorem Busy.fin {wr : Int} {es : List Ev} {kvs : List (D × D)} {fs : List Dd} {d : Dd} {i : Nat} {x : Option Int × Nat} (g : Good wr es fs) (b : Busy kvs fs) (hd : fs[i]? = some d) (he : d.e = none) : Busy (dropD kvs (.int d.h)) (fs.set i ⟨d.h, d.w, d.b, some x⟩) := by
  intro h
  have hi : i < fs.length := (List.getElem?_eq_some_iff.mp hd).1
  by_cases q : h = d.h
  · subst q
    refine .inl ⟨by rw [findK_drop, if_pos rfl], fun y hy hh => ?_⟩
    obtain ⟨j, hj⟩ := List.mem_iff_getElem?.mp hy
    by_cases z : j = i
    · subst z
      rw [List.getElem?_set_self hi] at hj; cases hj; simp
    · rw [List.getElem?_set_ne (Ne.symm z)] at hj
      intro ye
      obtain ⟨qi, ei⟩ := List.getElem?_eq_some_iff.mp hd
      obtain ⟨qj, ej⟩ := List.getElem?_eq_some_iff.mp hj
      have ap := List.pairwise_iff_getElem.mp g.apart
      rcases Nat.lt_or_gt_of_ne z with l | l
      · have A := ap j i qj qi l
        rw [ei, ej] at A
        obtain ⟨a, e, w1, _⟩ := A.2.1 hh
        rw [ye] at w1; cases w1
      · have A := ap i j qi qj l
        rw [ei, ej] at A
        obtain ⟨a, e, w1, _⟩ := A.2.1 hh.symm
        rw [he] at w1; cases w1
  · have q' : ¬ D.int h = D.int d.h := fun z => q (by injection z)
    rw [findK_drop, if_neg q']
    rcases b h with ⟨b1, b2⟩ | ⟨j, d', b1, b2, b3, b4⟩
    · refine .inl ⟨b1, fun y hy hh => ?_⟩
      rcases List.mem_or_eq_of_mem_set hy with hy | rfl
      · exact b2 y hy hh
      · exact absurd hh.symm q
    · refine .inr ⟨j, d', b1, ?_, b3, b4⟩
      have : i ≠ j := fun z => by subst z; rw [hd] at b2; cases b2; exact q b3.symm
      rw [List.getElem?_set_ne this]; exact b2
theorem events_turn {S S' : Sto} {N i c : Nat} {nm : Str} {wr z w0 hd0 : Int} {hands : Int} {es : List Ev} {fs : List Dd} {us ws : List Int} {kvs : List (D × D)} {x1 x2 x3 x4 : Option D} (hS : S.length = N) (g : Gr S S') (h : EI N nm wr S' i es fs us ws kvs) (hi : i ≤ 500) (hh : 0 < hands ∧ hands < 100) {n : Nat} :
    ∃ (e2 : RL.Env) (S2 : Sto), l_law_events_0 [some (.ref c), some (.int w0), some (.ref n), some (.str nm), some (.int hands), some (.int wr), some (.ref N), some (.ref (N + 1)), some (.ref (N + 2)), some (.ref (N + 3)), some (.int z), x2, x3, x4] S' = .nx e2 S2 ∧ Gr S S2 ∧
      (∃ es fs us ws kvs, EI N nm wr S2 (i + 1) es fs us ws kvs) ∧ ∃ y1 y2 y3 y4, e2 = [some (.ref c), some (.int w0), some (.ref n), some (.str nm), some (.int hands), some (.int wr), some (.ref N), some (.ref (N + 1)), some (.ref (N + 2)), some (.ref (N + 3)), y1, y2, y3, y4] := by
  obtain ⟨S1, e1, R1, K1⟩ := stream_spec (S := S') (c := z / 2) (w := w0)
  obtain ⟨t, S2, e2, t0, t1, R2, K2⟩ := take_spec R1 (m := hands) hh.1 (Int.lt_trans hh.2 (by decide))
  have K := K1.trans K2
  have l3 := lt_at h.se
  have su := K.at h.su (by omega)
  have sw := K.at h.sw (by omega)
  have sb := K.at h.sb (by omega)
  have se := K.at h.se (by omega)
  have gS : Gr S S2 := ⟨Nat.le_trans g.1 K.1, fun k hk => (K.2 k (by omega) (by omega)).trans (g.2 k hk)⟩
  have ins := gIn_dict (k := .int t) sb rfl
  have dv : ∀ S, gDiv (.int z) (.int 2) S = .ok (.int (z / 2)) S := fun S => gDiv_int (by omega) (by decide)
  have el := h.el
  have bl := h.bl
  have wl := h.wl
  have ul := h.ul
  generalize hr : S'.length = r at *
  have key : ∀ {T : Sto} {ev : Ev} {fs' : List Dd} {us' ws' : List Int} {kvs' : List (D × D)} {y : Option D}, Run wr (es ++ [ev]) fs' → Gr S T → N + 3 < T.length → T[N]? = some (.dict (dk us')) → us'.length ≤ us.length + 1 → (0 : Int) ∈ us' → (∀ d ∈ fs', ∀ w, d.w = some w → w ∈ us') →
      T[N + 1]? = some (.lst (ws'.map D.int)) → ws' ≠ [] → ws'.length ≤ ws.length + 1 → T[N + 2]? = some (.dict kvs') → kvs'.length ≤ kvs.length + 1 → Busy kvs' fs' →
      Gr S (T.set (N + 3) (.lst ((es ++ [ev]).map (Ev.d nm)))) ∧ ∃ es1 fs1 us1 ws1 kvs1, EI N nm wr (T.set (N + 3) (.lst ((es ++ [ev]).map (Ev.d nm)))) (i + 1) es1 fs1 us1 ws1 kvs1 := by
    intro T ev fs' us' ws' kvs' y a1 a2 a3 a4 a5 a6 a7 a8 a9 b1 b2 b3 b4
    exact ⟨a2.set (by omega), es ++ [ev], fs', us', ws', kvs', ⟨a1, by simp; omega, by rw [at_set_ne (by omega)]; exact a4, by omega, a6, a7, by rw [at_set_ne (by omega)]; exact a8, a9, by omega, by rw [at_set_ne (by omega)]; exact b2, by omega, b4, setAt a3 _⟩⟩
  have app : ∀ {T : Sto} (ev : Ev), T[N + 3]? = some (.lst (es.map (Ev.d nm))) → gAppend (.ref (N + 3)) [ev.d nm] T = .ok .non (T.set (N + 3) (.lst ((es ++ [ev]).map (Ev.d nm)))) := fun ev hT => by
    rw [gAppend_ok hT (by simp; omega), List.map_append]; rfl
  have k1 : kvs.length < lim := by unfold lim; omega
  rcases h.bu t with ⟨b1, b2⟩ | ⟨j, d, b1, b2, b3, b4⟩
  · rw [b1] at ins
    -- a read begins
    have rd : ∀ (T : Sto), Keep r S2 T → ∃ U S3, (Gr S S3 ∧ ∃ es fs us ws kvs, EI N nm wr S3 (i + 1) es fs us ws kvs) ∧ T[N + 2]? = some (.dict kvs) ∧ T.set (N + 2) (.dict (putD kvs (.int t) (.str "read"))) = U ∧ U[N + 3]? = some (.lst (es.map (Ev.d nm))) ∧
        gAppend (.ref (N + 3)) [.tup [.str "begin", .int t, .str nm, .str "read", .non]] U = .ok .non S3 := by
      intro T KT
      have tu := KT.at su (by omega)
      have tw := KT.at sw (by omega)
      have tb := KT.at sb (by omega)
      have te := KT.at se (by omega)
      have gT : Gr S T := ⟨Nat.le_trans gS.1 KT.1, fun k hk => (KT.2 k (by have := gS.1; omega) (by omega)).trans (gS.2 k hk)⟩
      have lT := lt_at te
      have a := app (T := T.set (N + 2) (.dict (putD kvs (.int t) (.str "read")))) (.br t) (by rw [at_set_ne (by omega)]; exact te)
      have kk := key (T := T.set (N + 2) (.dict (putD kvs (.int t) (.str "read")))) (ev := .br t) (us' := us) (ws' := ws) (kvs' := putD kvs (.int t) (.str "read")) (y := none) (h.run.br b2) (gT.set (by omega)) (by simp; omega) (by rw [at_set_ne (by omega)]; exact tu) (by omega) h.u0 (fun x hx w hw => by
        rcases List.mem_append.mp hx with hx | hx
        · exact h.uw x hx w hw
        · rw [List.mem_singleton.mp hx] at hw; cases hw) (by rw [at_set_ne (by omega)]; exact tw) h.w0 (by omega) (setAt (by omega) _) putD_len (h.bu.beg (d := ⟨t, none, es.length, none⟩) rfl)
      have te2 : (T.set (N + 2) (.dict (putD kvs (.int t) (.str "read"))))[N + 3]? = some (.lst (es.map (Ev.d nm))) := by rw [at_set_ne (by omega)]; exact te
      exact ⟨_, _, kk, tb, rfl, te2, a⟩
    by_cases c1 : t = wr
    · obtain ⟨u, S3, e3, u0, u1, R3, K3⟩ := take_spec R2 (m := 5) (by omega) (by decide)
      by_cases c2 : u > 0
      · have vu := K3.at su (by omega)
        have vw := K3.at sw (by omega)
        obtain ⟨w, S4, e4, f1, f2, R4, K4⟩ := fresh_spec R3 vu (by omega) (by omega)
        have K34 := K3.trans K4
        have tu := K34.at su (by omega)
        have tw := K34.at sw (by omega)
        have tb := K34.at sb (by omega)
        have te := K34.at se (by omega)
        have gT : Gr S S4 := ⟨Nat.le_trans gS.1 K34.1, fun k hk => (K34.2 k (by have := gS.1; omega) (by omega)).trans (gS.2 k hk)⟩
        have lT := lt_at te
        generalize hU1 : S4.set N (.dict (dk (us ++ [w]))) = U1 at *
        have gU1 : Gr S U1 := by rw [← hU1]; exact gT.set (by omega)
        have u1u : U1[N]? = some (.dict (dk (us ++ [w]))) := by rw [← hU1]; exact setAt (by omega) _
        have u1w : U1[N + 1]? = some (.lst (ws.map D.int)) := by rw [← hU1, at_set_ne (by omega)]; exact tw
        have u1b : U1[N + 2]? = some (.dict kvs) := by rw [← hU1, at_set_ne (by omega)]; exact tb
        have u1e : U1[N + 3]? = some (.lst (es.map (Ev.d nm))) := by rw [← hU1, at_set_ne (by omega)]; exact te
        have a1 := gAppend_ok (y := .int w) u1w (by simp; omega)
        have lU := lt_at u1e
        have wm : ws.map D.int ++ [.int w] = (ws ++ [w]).map D.int := by simp
        rw [wm] at a1
        generalize hU2 : U1.set (N + 1) (.lst ((ws ++ [w]).map D.int)) = U2 at *
        have gU2 : Gr S U2 := by rw [← hU2]; exact gU1.set (by omega)
        have u2u : U2[N]? = some (.dict (dk (us ++ [w]))) := by rw [← hU2, at_set_ne (by omega)]; exact u1u
        have u2w : U2[N + 1]? = some (.lst ((ws ++ [w]).map D.int)) := by rw [← hU2]; exact setAt (by omega) _
        have u2b : U2[N + 2]? = some (.dict kvs) := by rw [← hU2, at_set_ne (by omega)]; exact u1b
        have u2e : U2[N + 3]? = some (.lst (es.map (Ev.d nm))) := by rw [← hU2, at_set_ne (by omega)]; exact u1e
        have lU2 := lt_at u2e
        generalize hU3 : U2.set (N + 2) (.dict (putD kvs (.int wr) (.str "write"))) = U3 at *
        have gU3 : Gr S U3 := by rw [← hU3]; exact gU2.set (by omega)
        have u3u : U3[N]? = some (.dict (dk (us ++ [w]))) := by rw [← hU3, at_set_ne (by omega)]; exact u2u
        have u3w : U3[N + 1]? = some (.lst ((ws ++ [w]).map D.int)) := by rw [← hU3, at_set_ne (by omega)]; exact u2w
        have u3b : U3[N + 2]? = some (.dict (putD kvs (.int wr) (.str "write"))) := by rw [← hU3]; exact setAt (by omega) _
        have u3e : U3[N + 3]? = some (.lst (es.map (Ev.d nm))) := by rw [← hU3, at_set_ne (by omega)]; exact u2e
        have a3 := app (.bw wr w) u3e
        have lastw : L2.atI ((ws ++ [w]).map D.int) (-1) = some (.int w) := atI_neg (by simp)
        subst c1
        have kk := key (T := U3) (ev := .bw t w) (us' := us ++ [w]) (ws' := ws ++ [w]) (kvs' := putD kvs (.int t) (.str "write")) (y := none) (h.run.bw b2 (fun x hx hw => f1 (h.uw x hx w hw)) (fun z => f1 (z ▸ h.u0))) gU3 (lt_at u3e) u3u (by simp) (by simp [h.u0]) (fun x hx v hv => by
          rcases List.mem_append.mp hx with hx | hx
          · exact List.mem_append_left _ (h.uw x hx v hv)
          · rw [List.mem_singleton.mp hx] at hv; cases hv; simp) u3w (by simp) (by simp) u3b putD_len (h.bu.beg (d := ⟨t, some w, es.length, none⟩) rfl)
        refine ⟨[some (.ref c), some (.int w0), some (.ref n), some (.str nm), some (.int hands), some (.int t), some (.ref N), some (.ref (N + 1)), some (.ref (N + 2)), some (.ref (N + 3)), some (.int z), some (.ref r), some (.int t), x4], _, ?_, kk.1, kk.2, _, _, _, _, rfl⟩
        simp only [Ev.d] at a3
        have c2' : 0 < u := c2
        rw [← wm] at lastw
        simp only [l_law_events_0]
        simp [dv, e1, e2, ins, e3, c2', vw, e4, a1, u2b, k1, hU3, u3e, u3w, lastw, newT_ok, a3, u1w]
      · obtain ⟨U, T, kk, f1, f2, f3, f4⟩ := rd S3 K3
        subst c1
        refine ⟨[some (.ref c), some (.int w0), some (.ref n), some (.str nm), some (.int hands), some (.int t), some (.ref N), some (.ref (N + 1)), some (.ref (N + 2)), some (.ref (N + 3)), some (.int z), some (.ref r), some (.int t), x4], T, ?_, kk.1, kk.2, _, _, _, _, rfl⟩
        have c2' : ¬ 0 < u := c2
        simp only [l_law_events_0]
        simp [dv, e1, e2, ins, e3, c2', f1, f2, f3, f4, k1, newT_ok]
    · obtain ⟨U, T, kk, f1, f2, f3, f4⟩ := rd S2 (Keep.refl _ _)
      refine ⟨[some (.ref c), some (.int w0), some (.ref n), some (.str nm), some (.int hands), some (.int wr), some (.ref N), some (.ref (N + 1)), some (.ref (N + 2)), some (.ref (N + 3)), some (.int z), some (.ref r), some (.int t), x4], T, ?_, kk.1, kk.2, _, _, _, _, rfl⟩
      simp only [l_law_events_0]
      simp [dv, e1, e2, ins, c1, f1, f2, f3, f4, k1, newT_ok]
  · subst b3
    rw [b1] at ins
    have pop := gDPop_ok (k := .int d.h) sb rfl b1
    have lT := lt_at se
    generalize hU1 : S2.set (N + 2) (.dict (dropD kvs (.int d.h))) = U1 at *
    have gU1 : Gr S U1 := by rw [← hU1]; exact gS.set (by omega)
    have u1u : U1[N]? = some (.dict (dk us)) := by rw [← hU1, at_set_ne (by omega)]; exact su
    have u1w : U1[N + 1]? = some (.lst (ws.map D.int)) := by rw [← hU1, at_set_ne (by omega)]; exact sw
    have u1b : U1[N + 2]? = some (.dict (dropD kvs (.int d.h))) := by rw [← hU1]; exact setAt (by omega) _
    have u1e : U1[N + 3]? = some (.lst (es.map (Ev.d nm))) := by rw [← hU1, at_set_ne (by omega)]; exact se
    have RU : RowAt U1 r := by rw [← hU1]; exact R2.set (by omega)
    have fin : ∀ (T : Sto) (a : Option Int), Keep r U1 T → d.w.isSome = a.isNone → ∃ S3, (Gr S S3 ∧ ∃ es fs us ws kvs, EI N nm wr S3 (i + 1) es fs us ws kvs) ∧ T[N + 3]? = some (.lst (es.map (Ev.d nm))) ∧ gAppend (.ref (N + 3)) [.tup [.str "end", .int d.h, anD a]] T = .ok .non S3 := by
      intro T a KT hw
      have tu := KT.at u1u (by omega)
      have tw := KT.at u1w (by omega)
      have tb := KT.at u1b (by omega)
      have te := KT.at u1e (by omega)
      have gT : Gr S T := ⟨Nat.le_trans gU1.1 KT.1, fun k hk => (KT.2 k (by have := gU1.1; omega) (by omega)).trans (gU1.2 k hk)⟩
      have kk := key (T := T) (ev := .en d.h a) (us' := us) (ws' := ws) (kvs' := dropD kvs (.int d.h)) (y := none) (h.run.en b2 rfl b4 hw) gT (lt_at te) tu (by omega) h.u0 (fun x hx w hw => by
        rcases List.mem_or_eq_of_mem_set hx with hx | rfl
        · exact h.uw x hx w hw
        · exact h.uw d (List.mem_of_getElem? b2) w hw) tw h.w0 (by omega) tb (Nat.le_trans dropD_len (by omega)) (h.bu.fin h.run.good b2 b4)
      exact ⟨_, kk, te, app (.en d.h a) te⟩
    cases dw : d.w with
    | some w =>
      obtain ⟨T, kk, f1, f2⟩ := fin U1 none (Keep.refl _ _) (by rw [dw]; rfl)
      refine ⟨[some (.ref c), some (.int w0), some (.ref n), some (.str nm), some (.int hands), some (.int wr), some (.ref N), some (.ref (N + 1)), some (.ref (N + 2)), some (.ref (N + 3)), some (.int z), some (.ref r), some (.int d.h), some (.str "ok")], T, ?_, kk.1, kk.2, _, _, _, _, rfl⟩
      rw [dw] at pop ins
      simp only [anD] at f2
      simp only [l_law_events_0]
      simp [dv, e1, e2, ins, sb, pop, verbD, f1, f2, newT_ok]
    | none =>
      obtain ⟨a, T, e3, R3, K3⟩ := answer_spec RU u1w (by omega) h.w0
      obtain ⟨S3, kk, f1, f2⟩ := fin T (some a) K3 (by rw [dw]; rfl)
      refine ⟨[some (.ref c), some (.int w0), some (.ref n), some (.str nm), some (.int hands), some (.int wr), some (.ref N), some (.ref (N + 1)), some (.ref (N + 2)), some (.ref (N + 3)), some (.int z), some (.ref r), some (.int d.h), some (.int a)], S3, ?_, kk.1, kk.2, _, _, _, _, rfl⟩
      rw [dw] at pop ins
      simp only [anD] at f2
      simp only [l_law_events_0]
      simp [dv, e1, e2, ins, sb, pop, verbD, e3, f1, f2, newT_ok]
theorem events_spec2 {S : Sto} {n c : Nat} {cells : List D} {w0 : Int} {nm : Str} (hR : RowAt S n) (hc : S[c]? = some (.lst cells)) (hn : c ≠ n) (hi : ∀ d ∈ cells, isInt d) (hl : cells.length ≤ 100) :
    ∃ (wr : Int) (es : List Ev) (fs : List Dd) (S' : RL.Sto) (k : Nat), m_law_events [.ref c, .int w0, .ref n, .str nm] S = .ok (.ref k) S' ∧ Run wr es fs ∧ es.length ≤ 100 ∧ S'[k]? = some (.lst (es.map (Ev.d nm))) ∧ 0 ≤ wr ∧ wr < 6 ∧ es.length ≤ cells.length := by
  obtain ⟨t, S1, e1, t0, t1, R1, K1⟩ := take_spec hR (m := 5) (by omega) (by decide)
  obtain ⟨wr, S2, e2, w0', w1, R2, K2⟩ := take_spec R1 (m := 2 + t) (by omega) (Int.lt_trans (show 2 + t < 10 by omega) (by decide))
  have hc2 := (K1.trans K2).at hc hn
  have lc := lt_at hc2
  have mg : mergeD [] [(D.int 0, .bl true)] = dk [0] := rfl
  have G0 : Gr S2 (S2 ++ [.dict (dk [0]), .lst [.int 0], .dict [], .lst []]) := Gr.app _ _
  have key := forL_inv (gd := [(c, .lst cells)]) (t := sName 10) (f := l_law_events_0) (items := cells) (env := [some (.ref c), some (.int w0), some (.ref n), some (.str nm), some (.int (2 + t)), some (.int wr), some (.ref S2.length), some (.ref (S2.length + 1)), some (.ref (S2.length + 2)), some (.ref (S2.length + 3)), none, none, none, none]) (S := S2 ++ [.dict (dk [0]), .lst [.int 0], .dict [], .lst []])
    (fun i e S' => Gr S2 S' ∧ (∃ es fs us ws kvs, EI S2.length nm wr S' i es fs us ws kvs) ∧ ∃ y1 y2 y3 y4, e = [some (.ref c), some (.int w0), some (.ref n), some (.str nm), some (.int (2 + t)), some (.int wr), some (.ref S2.length), some (.ref (S2.length + 1)), some (.ref (S2.length + 2)), some (.ref (S2.length + 3)), y1, y2, y3, y4])
    (fun i e S' hP => grd_some (hP.1.at hc2))
    (fun i d e S' hd ⟨g, ⟨es, fs, us, ws, kvs, h⟩, y1, y2, y3, y4, he⟩ => by
      subst he
      obtain ⟨z, rfl⟩ := hi d (List.mem_of_getElem? hd)
      have hlt := (List.getElem?_eq_some_iff.mp hd).1
      obtain ⟨e2, S3, f1, f2, f3, f4⟩ := events_turn (c := c) (z := z) (w0 := w0) (hd0 := 0) (hands := 2 + t) (x1 := none) (x2 := y2) (x3 := y3) (x4 := y4) (n := n) rfl g h (by omega) ⟨by omega, by omega⟩
      exact ⟨_, _, e2, S3, rfl, .inl f1, f2, f3, f4⟩)
    ⟨G0, ⟨[], [], [0], [0], [], ⟨.nil, Nat.le_refl _, by simp, by simp, by simp, fun d hd => (nomatch hd), by simp, by simp, by simp, by simp, by simp, fun h => .inl ⟨rfl, fun d hd => (nomatch hd)⟩, by simp⟩⟩, none, none, none, none, rfl⟩
  obtain ⟨e, S', f1, f2, ⟨es, fs, us, ws, kvs, h⟩, y1, y2, y3, y4, rfl⟩ := key
  refine ⟨wr, es, fs, S', S2.length + 3, ?_, h.run, Nat.le_trans h.el hl, h.se, w0', by omega, h.el⟩
  have hc3 : (S2 ++ [.dict (dk [0]), .lst [.int 0], .dict [], .lst []])[c]? = some (.lst cells) := app_at hc2
  generalize hT : S2 ++ [O.dict (dk [0]), .lst [.int 0], .dict [], .lst []] = T at *
  simp [m_law_events, b_law_events, runB_eq, dFor_eq, e1, e2, dictR_ok, mg, newL_ok, hT, hc3, f1]
theorem events_spec {S : Sto} {n c : Nat} {cells : List D} {w0 : Int} {nm : Str} (hR : RowAt S n) (hc : S[c]? = some (.lst cells)) (hn : c ≠ n) (hi : ∀ d ∈ cells, isInt d) (hl : cells.length ≤ 100) :
    ∃ (wr : Int) (es : List Ev) (fs : List Dd) (S' : RL.Sto) (k : Nat), m_law_events [.ref c, .int w0, .ref n, .str nm] S = .ok (.ref k) S' ∧ Run wr es fs ∧ es.length ≤ 100 ∧ S'[k]? = some (.lst (es.map (Ev.d nm))) := by
  obtain ⟨wr, es, fs, S', k, h1, h2, h3, h4, _⟩ := events_spec2 (w0 := w0) (nm := nm) hR hc hn hi hl
  exact ⟨wr, es, fs, S', k, h1, h2, h3, h4⟩
theorem tale_spec {ns : List Int} {m : Int} {S : Sto} (hl : ns.length ≤ 63) : ∃ (wr : Int) (es : List Ev) (fs : List Dd) (nm : Str) (S' : RL.Sto), m_law_tale [.scr (ns.map D.int), .int m] S = .ok (taleD nm es) S' ∧ Run wr es fs ∧ es.length ≤ 100 := by
  obtain ⟨c0, hc⟩ := cell_at0 (ns := ns) (S := S)
  obtain ⟨S1, e1, R1, K1⟩ := stream_spec (S := S) (c := c0 / 2) (w := c0 % 2)
  obtain ⟨nm, S2, e2, _, R2, K2⟩ := name_spec R1
  have hLm : ∀ d ∈ RL.cutD (ns.map D.int) (some 1) (some (1 + m)), isInt d := by
    intro d hd
    obtain ⟨i, _, rfl⟩ := List.mem_map.mp (cutD_mem hd)
    exact ⟨i, rfl⟩
  have hCl : (RL.cutD (ns.map D.int) (some 1) (some (1 + m))).length ≤ 100 := by
    unfold RL.cutD
    rw [List.length_take, List.length_drop, List.length_map]; omega
  generalize hC : RL.cutD (ns.map D.int) (some 1) (some (1 + m)) = C at *
  obtain ⟨wr, es, fs, S', k, e3, r, hk, f⟩ := events_spec (S := S2 ++ [.lst C]) (n := S.length) (c := S2.length) (cells := C) (w0 := c0 % 2) (nm := nm) (R2.app _) (by simp) (by have := R2.ne; omega) hLm hCl
  refine ⟨wr, es, fs, nm, S', ?_, r, hk⟩
  unfold taleD
  simp [m_law_tale, b_law_tale, runB_eq, hc, gMod_int (show (0:Int) < 2 by omega), gDiv_int (show (0:Int) < 2 by omega) (by decide), e1, e2, hC, e3, gTuple_lst f, newT_ok]

/-! events that begin and end by turns, whatever they say -/
inductive Xv where | bg (h : Int) (v : Str) (w : D) | en (h : Int) (a : D)
def Xv.d (nm : Str) : Xv → D
  | .bg h v w => .tup [.str "begin", .int h, .str nm, .str v, w]
  | .en h a => .tup [.str "end", .int h, a]
structure Xd where
  h : Int
  v : Str
  w : D
  b : Nat
  e : Option (D × Nat)
def idleX (h : Int) (fs : List Xd) : Prop := ∀ d ∈ fs, d.h = h → d.e ≠ none
inductive XRun : List Xv → List Xd → Prop
  | nil : XRun [] []
  | bg {es : List Xv} {fs : List Xd} {h : Int} {v : Str} {w : D} : XRun es fs → idleX h fs → XRun (es ++ [.bg h v w]) (fs ++ [⟨h, v, w, es.length, none⟩])
  | en {es : List Xv} {fs : List Xd} {h : Int} {a : D} {i : Nat} {d : Xd} : XRun es fs → fs[i]? = some d → d.h = h → d.e = none → XRun (es ++ [.en h a]) (fs.set i ⟨d.h, d.v, d.w, d.b, some (a, es.length)⟩)
def Ev.x : Ev → Xv
  | .bw h w => .bg h "write" (.int w)
  | .br h => .bg h "read" .non
  | .en h a => .en h (anD a)
def Dd.x (d : Dd) : Xd := ⟨d.h, if d.w.isSome then "write" else "read", oD d.w, d.b, d.e.map fun p => (anD p.1, p.2)⟩
theorem Ev.xd {nm : Str} (ev : Ev) : ev.x.d nm = ev.d nm := by cases ev <;> rfl
theorem idle_x {h : Int} {fs : List Dd} (hi : idle h fs) : idleX h (fs.map Dd.x) := by
  intro d hd hh he
  obtain ⟨y, hy, rfl⟩ := List.mem_map.mp hd
  refine hi y hy hh ?_
  cases q : y.e with
  | none => rfl
  | some p => unfold Dd.x at he; rw [q] at he; cases he
theorem Run.x {wr : Int} {es : List Ev} {fs : List Dd} (r : Run wr es fs) : XRun (es.map Ev.x) (fs.map Dd.x) := by
  induction r with
  | nil => exact .nil
  | @bw es fs w r hi hw h0 ih =>
    have := ih.bg (v := "write") (w := .int w) (idle_x hi)
    simpa [Ev.x, Dd.x, oD] using this
  | br r hi ih =>
    have := ih.bg (v := "read") (w := .non) (idle_x hi)
    simpa [Ev.x, Dd.x, oD] using this
  | @en es fs h a i d r hd hh ho hw ih =>
    have e1 : (fs.map Dd.x)[i]? = some d.x := by rw [List.getElem?_map, hd]; rfl
    have := ih.en (a := anD a) e1 (by exact hh) (by unfold Dd.x; rw [ho]; rfl)
    simpa [Ev.x, Dd.x, List.map_set] using this
def ansX : Option (D × Nat) → D
  | none => .non
  | some (a, _) => a
def endX : Option (D × Nat) → D
  | none => .non
  | some (_, e) => .int (e : Int)
def deedX (nm : Str) (d : Xd) : D := .tup [.int d.h, .str nm, .str d.v, d.w, ansX d.e, .int (d.b : Int), endX d.e]
theorem xdeeds_lp {nm : Str} {es : List Xv} {fs : List Xd} {S : RL.Sto} {x : D} (r : XRun es fs) (hl : es.length ≤ 1000) :
    ∃ e S', Lp [] (sTup 2 (sCons (sName 3) (sCons (sName 4) sNil))) l_deeds_0 (enumD (es.map (Xv.d nm))) [some x, some (.ref S.length), some (.ref (S.length + 1)), none, none, none] (S ++ [.lst [], .dict []]) e S' ∧
      Gr S S' ∧ S'[S.length]? = some (.lst (fs.map (deedX nm))) ∧ (∃ kvs, S'[S.length + 1]? = some (.dict kvs) ∧ kvs.length ≤ es.length ∧ ∀ i d, fs[i]? = some d → d.e = none → findK kvs (.int d.h) = some (.int (i : Nat))) ∧
      fs.length ≤ es.length ∧ ∃ a b c, e = [some x, some (.ref S.length), some (.ref (S.length + 1)), a, b, c] := by
  induction r with
  | nil => exact ⟨_, _, ⟨grd_none, rfl, rfl⟩, Gr.app _ _, by simp, ⟨[], by simp, by simp, fun i d h => by simp at h⟩, by simp, none, none, none, rfl⟩
  | @bg es fs h v w r hi ih =>
    obtain ⟨e, S', h1, g, h2, ⟨kvs, h3, h4, h5⟩, h6, a, b, c, rfl⟩ := ih (by simp at hl; omega)
    have hlen : es.length < 1000 := by simp at hl; omega
    have l1 := lt_at h2
    have l2 := lt_at h3
    have hS1 : (S'.set (S.length + 1) (.dict (putD kvs (.int h) (.int (fs.length : Nat)))))[S.length]? = some (.lst (fs.map (deedX nm))) := (at_set_ne (by omega)).trans h2
    have hS2 : (S'.set (S.length + 1) (.dict (putD kvs (.int h) (.int (fs.length : Nat)))))[S.length + 1]? = some (.dict (putD kvs (.int h) (.int (fs.length : Nat)))) := setAt l2 _
    have gT : Gr S (S'.set (S.length + 1) (.dict (putD kvs (.int h) (.int (fs.length : Nat))))) := g.set (by omega)
    generalize hT : S'.set (S.length + 1) (.dict (putD kvs (.int h) (.int (fs.length : Nat)))) = T at *
    have app := gAppend_ok (y := deedX nm ⟨h, v, w, es.length, none⟩) hS1 (by simp; omega)
    have k1 : kvs.length < lim := by unfold lim; omega
    refine ⟨[some x, some (.ref S.length), some (.ref (S.length + 1)), some (.int ((es.map (Xv.d nm)).length : Nat)), some ((Xv.bg h v w).d nm), c], T.set S.length (.lst (fs.map (deedX nm) ++ [deedX nm ⟨h, v, w, es.length, none⟩])), by
      rw [List.map_append, List.map_singleton, enumD_snoc]
      refine h1.snoc (e1 := [some x, some (.ref S.length), some (.ref (S.length + 1)), some (.int ((es.map (Xv.d nm)).length : Nat)), some ((Xv.bg h v w).d nm), c]) (S1 := S') (by simp) (.inl ?_) grd_none
      simp only [deedX, ansX, endX] at app ⊢
      simp [l_deeds_0, Xv.d, h2, h3, k1, hT, hS1, newT_ok, app], gT.set (Nat.le_refl _), by rw [setAt (lt_at hS1)]; simp, ⟨putD kvs (.int h) (.int (fs.length : Nat)), by rw [at_set_ne (by omega)]; exact hS2, Nat.le_trans putD_len (by simp; omega), fun i d' hd' he' => ?_⟩, by simp; omega, _, _, _, rfl⟩
    rw [findK_putD]
    rcases Nat.lt_or_ge i fs.length with q | q
    · rw [List.getElem?_append_left q] at hd'
      have := hi d' (List.mem_of_getElem? hd')
      rw [if_neg (fun z => this (by injection z) he')]
      exact h5 i d' hd' he'
    · have : i = fs.length := by have := (List.getElem?_eq_some_iff.mp hd').1; simp at this; omega
      subst this
      simp at hd'
      subst hd'
      rw [if_pos rfl]
  | @en es fs h a i d r hd hh ho ih =>
    obtain ⟨e, S', h1, g, h2, ⟨kvs, h3, h4, h5⟩, h6, a1, b1, c1, rfl⟩ := ih (by simp at hl; omega)
    have l1 := lt_at h2
    have l2 := lt_at h3
    have hi : i < fs.length := (List.getElem?_eq_some_iff.mp hd).1
    have F := h5 i d hd ho
    rw [hh] at F
    have T2 : L2.atI (fs.map (deedX nm)) (i : Int) = some (deedX nm d) := by rw [atI_natCast, List.getElem?_map, hd]; rfl
    have N := ixN_natCast (n := fs.length) (k := i) hi
    refine ⟨[some x, some (.ref S.length), some (.ref (S.length + 1)), some (.int ((es.map (Xv.d nm)).length : Nat)), some ((Xv.en h a).d nm), some (.int (i : Nat))], S'.set S.length (.lst ((fs.map (deedX nm)).set i (deedX nm ⟨d.h, d.v, d.w, d.b, some (a, es.length)⟩))), ?_, g.set (Nat.le_refl _), by rw [setAt l1, List.map_set], ⟨kvs, by rw [at_set_ne (by omega)]; exact h3, by simp; omega, fun j d' hd' he' => ?_⟩, by simp; omega, _, _, _, rfl⟩
    · rw [List.map_append, List.map_singleton, enumD_snoc]
      refine h1.snoc (e1 := [some x, some (.ref S.length), some (.ref (S.length + 1)), some (.int ((es.map (Xv.d nm)).length : Nat)), some ((Xv.en h a).d nm), c1]) (S1 := S') (by simp) (.inl ?_) grd_none
      rw [show deedX nm d = .tup [.int d.h, .str nm, .str d.v, d.w, ansX d.e, .int (d.b : Int), endX d.e] from rfl] at T2
      simp [l_deeds_0, Xv.d, h2, h3, F, T2, cut4, newT_ok, gAdd_tup_ok, N, deedX, ansX, endX]
    · by_cases q : j = i
      · subst q
        rw [List.getElem?_set_self hi] at hd'
        cases hd'
        cases he'
      · rw [List.getElem?_set_ne (Ne.symm q)] at hd'
        exact h5 j d' hd' he'
theorem xdeeds_spec {nm : Str} {es : List Xv} {fs : List Xd} {S : RL.Sto} {x : D} (r : XRun es fs) (hl : es.length ≤ 1000) :
    ∃ S', m_deeds [.tup [x, .tup (es.map (Xv.d nm))]] S = .ok (.ref S.length) S' ∧ Gr S S' ∧ S'[S.length]? = some (.lst (fs.map (deedX nm))) := by
  obtain ⟨e, S', h1, g, h2, _, _, a, b, c, rfl⟩ := xdeeds_lp (nm := nm) (S := S) (x := .tup [x, .tup (es.map (Xv.d nm))]) r hl
  refine ⟨S', ?_, g, h2⟩
  have := h1.run
  simp [m_deeds, b_deeds, runB_eq, dFor_eq, this]
/-- an answer is exchanged -/
theorem XRun.repl {es : List Xv} {fs : List Xd} (r : XRun es fs) : ∀ {i p : Nat} {d : Xd} {a a' : D}, fs[i]? = some d → d.e = some (a, p) → p < es.length ∧ XRun (es.set p (.en d.h a')) (fs.set i ⟨d.h, d.v, d.w, d.b, some (a', p)⟩) := by
  induction r with
  | nil => intro i p d a a' h; simp at h
  | @bg es fs h v w r hi ih =>
    intro i p d a a' hd he
    by_cases c : i < fs.length
    · rw [List.getElem?_append_left c] at hd
      obtain ⟨hp, q⟩ := ih (a' := a') hd he
      refine ⟨by simp; omega, ?_⟩
      rw [List.set_append_left _ _ hp, List.set_append_left _ _ c]
      have := q.bg (h := h) (v := v) (w := w) (fun y hy hh => by
        rcases List.mem_or_eq_of_mem_set hy with hy | rfl
        · exact hi y hy hh
        · simp)
      simpa using this
    · have : i = fs.length := by have := (List.getElem?_eq_some_iff.mp hd).1; simp at this; omega
      subst this
      simp at hd
      subst hd
      cases he
  | @en es fs h a0 i0 d0 r hd0 hh ho ih =>
    intro i p d a a' hd he
    by_cases c : i = i0
    · subst c
      have hi : i < fs.length := (List.getElem?_eq_some_iff.mp hd0).1
      rw [List.getElem?_set_self hi] at hd
      cases hd
      cases he
      refine ⟨by simp, ?_⟩
      have := r.en (a := a') hd0 hh ho
      rw [List.set_set]
      rw [List.set_append_right _ _ (Nat.le_refl _), Nat.sub_self]
      subst hh
      exact this
    · rw [List.getElem?_set_ne (Ne.symm c)] at hd
      obtain ⟨hp, q⟩ := ih (a' := a') hd he
      refine ⟨by simp; omega, ?_⟩
      rw [List.set_append_left _ _ hp, List.set_comm _ _ (Ne.symm c)]
      have := q.en (i := i0) (h := h) (a := a0) (d := d0) (by rw [List.getElem?_set_ne c]; exact hd0) hh ho
      simpa using this

/-! plain_deeds of what is not plain -/
theorem Lp_inv {gd : List (Nat × O)} {t : DG} {f : DS} (P : Nat → RL.Env → RL.Sto → Prop) (hg : ∀ i e S, P i e S → Grd gd S) : ∀ {items : List D} {k : Nat} {env : RL.Env} {S : RL.Sto},
    (∀ i d e S, items[i]? = some d → P (k + i) e S → ∃ e1 S1 e2 S2, t d e S = .ok e1 S1 ∧ (f e1 S1 = .nx e2 S2 ∨ f e1 S1 = .ct e2 S2) ∧ P (k + i + 1) e2 S2) → P k env S → ∃ e S', Lp gd t f items env S e S' ∧ P (k + items.length) e S'
  | [], k, env, S, _, h0 => ⟨env, S, ⟨hg _ _ _ h0, rfl, rfl⟩, h0⟩
  | d :: r, k, env, S, turn, h0 => by
    obtain ⟨e1, S1, e2, S2, h1, h2, h3⟩ := turn 0 d env S rfl h0
    obtain ⟨e, S', h4, h5⟩ := Lp_inv P hg (items := r) (k := k + 1) (fun i d e S hd hP => by
      have := turn (i + 1) d e S (by simpa using hd) (by rw [show k + (i + 1) = k + 1 + i by omega]; exact hP)
      rw [show k + (i + 1) + 1 = k + 1 + i + 1 by omega] at this
      exact this) h3
    exact ⟨e, S', ⟨hg _ _ _ h0, e1, S1, e2, S2, h1, h2, h4⟩, by rw [List.length_cons, show k + (r.length + 1) = k + 1 + r.length by omega]; exact h5⟩
theorem lp_exc {gd : List (Nat × O)} {t : DG} {f : DS} {d : D} {c : Str} : ∀ {l r : List D} {e e' e1 e2 : RL.Env} {S S' S1 S2 : RL.Sto}, Lp gd t f l e S e' S' → t d e' S' = .ok e1 S1 → f e1 S1 = .exc c e2 S2 → forL gd t f (l ++ d :: r) e S = .exc c e2 S2
  | [], r, _, _, _, _, _, _, _, _, ⟨g, h1, h2⟩, ht, hf => by
    subst h1; subst h2
    rw [List.nil_append, forL_cons g ht, hf]; rfl
  | x :: l, r, _, _, _, _, _, _, _, _, ⟨g, a1, b1, a2, b2, h1, h2, h3⟩, ht, hf => by
    rw [List.cons_append, forL_cons g h1]
    rcases h2 with h2 | h2 <;> rw [h2]
    · exact lp_exc h3 ht hf
    · exact lp_exc h3 ht hf
theorem plain_turn {wr : Int} {nm : Str} {es : List Ev} {fs : List Dd} {S S' : RL.Sto} {X0 : D} {i : Nat} {d : Dd} {a b c d0 f h0 j k : Option D} (g : Good wr es fs) (fl : fs.length ≤ 900) (hd2 : fs[i]? = some d) (q1 : Gr S S') (q2 : S'[S.length]? = some (.dict (wlD (wlF (fs.take i))))) (q3 : S'[S.length + 1]? = some (.lst ((rds (fs.take i) 0).map rdD))) {L : List D} (q4 : S'[S.length + 2]? = some (.lst L)) :
    ∃ e1 S1 e2 S2, sTup 2 (sCons (sName 3) (sCons (sTup 7 (sCons (sName 4) (sCons (sName 5) (sCons (sName 6) (sCons (sName 7) (sCons (sName 8) (sCons (sName 9) (sCons (sName 10) sNil)))))))) sNil)) (.tup [.int (i : Nat), deedT nm d]) [some X0, some (.ref S.length), some (.ref (S.length + 1)), a, b, c, d0, f, h0, j, k] S' = .ok e1 S1 ∧ (l_plain_deeds_0 e1 S1 = .nx e2 S2 ∨ l_plain_deeds_0 e1 S1 = .ct e2 S2) ∧
      Gr S S2 ∧ S2[S.length]? = some (.dict (wlD (wlF (fs.take (i + 1))))) ∧ S2[S.length + 1]? = some (.lst ((rds (fs.take (i + 1)) 0).map rdD)) ∧ S2[S.length + 2]? = some (.lst L) ∧ ∃ a b c d f h j k, e2 = [some X0, some (.ref S.length), some (.ref (S.length + 1)), a, b, c, d, f, h, j, k] := by
  have hm : d ∈ fs := List.mem_of_getElem? hd2
  have hi : i < fs.length := (List.getElem?_eq_some_iff.mp hd2).1
  have tk : fs.take (i + 1) = fs.take i ++ [d] := by rw [List.take_add_one, hd2]; rfl
  have tl : (fs.take i).length = i := by rw [List.length_take]; omega
  have l1 := lt_at q2
  have l2 := lt_at q3
  have ng : ∀ w, d.w = some w → findK (wlD (wlF (fs.take i))) (.int w) = none := fun w hw => by
    rw [findK_none]
    intro p hp
    unfold wlD at hp
    obtain ⟨r, hr, rfl⟩ := List.mem_map.mp hp
    intro e
    injection e with e
    have : w ∈ (wlF (fs.take i)).map (·.1) := e ▸ List.mem_map_of_mem hr
    rcases wlF_keys.mp this with z | ⟨d', hd', z⟩
    · exact ((g.beg d hm).2.1 w hw).2.2 z
    · obtain ⟨k, hk⟩ := List.mem_iff_getElem?.mp hd'
      have k1 : k < i := by have := (List.getElem?_eq_some_iff.mp hk).1; omega
      rw [List.getElem?_take_of_lt k1] at hk
      have A := List.pairwise_iff_getElem.mp g.apart k i (List.getElem?_eq_some_iff.mp hk).1 hi k1
      rw [(List.getElem?_eq_some_iff.mp hk).2, (List.getElem?_eq_some_iff.mp hd2).2] at A
      exact A.2.2 w z hw
  have wl1 : (wlD (wlF (fs.take i))).length ≤ 1001 := by
    unfold wlD wlF
    rw [List.length_map, List.length_cons]
    have := List.length_filterMap_le wrO (fs.take i)
    omega
  have rl1 : ((rds (fs.take i) 0).map rdD).length ≤ 1000 := by
    have : ∀ (l : List Dd) (n : Nat), (rds l n).length ≤ l.length := by
      intro l
      induction l with
      | nil => intro n; simp [rds]
      | cons d l ih =>
        intro n
        have := ih (n + 1)
        have o : (rdO d n).toList.length ≤ 1 := by cases rdO d n <;> simp
        simp only [rds, List.length_append, List.length_cons]
        omega
    have := this (fs.take i) 0
    rw [List.length_map]; omega
  have T : sTup 2 (sCons (sName 3) (sCons (sTup 7 (sCons (sName 4) (sCons (sName 5) (sCons (sName 6) (sCons (sName 7) (sCons (sName 8) (sCons (sName 9) (sCons (sName 10) sNil)))))))) sNil)) (.tup [.int (i : Nat), deedT nm d]) [some X0, some (.ref S.length), some (.ref (S.length + 1)), a, b, c, d0, f, h0, j, k] S' =
      .ok [some X0, some (.ref S.length), some (.ref (S.length + 1)), some (.int (i : Nat)), some (.int d.h), some (.str nm), some (verbD d.w), some (oD d.w), some (ansE d.e), some (.int (d.b : Int)), some (endE d.e)] S' := by simp [deedT]
  rw [tk, wlF_snoc, rds_snoc, tl]
  cases hw : d.w with
  | some w =>
    have ng := ng w hw
    have pd : putD (wlD (wlF (fs.take i))) (.int w) (.tup [.int (d.b : Int), endE d.e]) = wlD (wlF (fs.take i) ++ (wrO d).toList) := by
      rw [putD_new (findK_none.mp ng), wlD_app]
      congr 1
      unfold wrO wlD
      rw [hw]
      cases d.e <;> rfl
    have rd0 : rdO d i = none := by unfold rdO; rw [hw]
    have ins := gIn_dict (S := S') (k := .int w) q2 rfl
    rw [ng] at ins
    rw [hw] at T
    refine ⟨_, _, [some X0, some (.ref S.length), some (.ref (S.length + 1)), some (.int (i : Nat)), some (.int d.h), some (.str nm), some (verbD (some w)), some (oD (some w)), some (ansE d.e), some (.int (d.b : Int)), some (endE d.e)], S'.set S.length (.dict (wlD (wlF (fs.take i) ++ (wrO d).toList))), T, .inl ?_, q1.set (Nat.le_refl _), setAt l1 _, by rw [at_set_ne (by omega), rd0]; simpa using q3, by rw [at_set_ne (by omega)]; exact q4, _, _, _, _, _, _, _, _, rfl⟩
    have k1 : (wlD (wlF (fs.take i))).length < lim := by unfold lim; omega
    cases he : d.e with
    | none =>
      rw [he] at pd
      simp [l_plain_deeds_0, verbD, oD, ansE, endE, ins, q2, k1, newT_ok] at pd ⊢
      rw [pd]
    | some ae =>
      obtain ⟨an, en⟩ := ae
      rw [he] at pd
      have an0 := (g.fin d hm an en he).2.2
      rw [hw] at an0
      cases an with
      | some _ => cases an0
      | none =>
        simp [l_plain_deeds_0, verbD, oD, ansE, anD, endE, ins, q2, k1, newT_ok] at pd ⊢
        rw [pd]
  | none =>
    have wr0 : wrO d = none := by unfold wrO; rw [hw]; rfl
    rw [hw] at T
    cases he : d.e with
    | none =>
      have rd0 : rdO d i = none := by unfold rdO; rw [hw, he]
      rw [he] at T
      refine ⟨_, _, [some X0, some (.ref S.length), some (.ref (S.length + 1)), some (.int (i : Nat)), some (.int d.h), some (.str nm), some (verbD none), some (oD none), some (ansE none), some (.int (d.b : Int)), some (endE none)], S', T, .inl (by simp [l_plain_deeds_0, verbD, endE]), q1, by rw [wr0]; simpa using q2, by rw [rd0]; simpa using q3, q4, _, _, _, _, _, _, _, _, rfl⟩
    | some ae =>
      obtain ⟨an, en⟩ := ae
      have an0 := (g.fin d hm an en he).2.2
      rw [hw] at an0
      cases an with
      | none => cases an0
      | some an =>
        have rd0 : rdO d i = some (i, an, d.b, en) := by unfold rdO; rw [hw, he]
        rw [he] at T
        have ap := gAppend_ok (y := rdD (i, an, d.b, en)) q3 (by omega)
        refine ⟨_, _, _, S'.set (S.length + 1) (.lst ((rds (fs.take i) 0).map rdD ++ [rdD (i, an, d.b, en)])), T, .inl (by simp [l_plain_deeds_0, verbD, endE, ansE, anD, newT_ok, q3]; simp [rdD] at ap ⊢; rw [ap]; rfl), q1.set (by omega), by rw [at_set_ne (by omega), wr0]; simpa using q2, by rw [rd0, setAt l2]; simp, by rw [at_set_ne (by omega)]; exact q4, _, _, _, _, _, _, _, _, rfl⟩
theorem deedX_x {nm : Str} (d : Dd) : deedX nm d.x = deedT nm d := by
  obtain ⟨h, w, b, e⟩ := d
  unfold deedX deedT Dd.x verbD
  cases w with
  | none => cases e with
    | none => rfl
    | some p => obtain ⟨a, n⟩ := p; rfl
  | some w => cases e with
    | none => rfl
    | some p => obtain ⟨a, n⟩ := p; rfl
inductive BadX (fs : List Dd) (x : Xd) : Prop
  | worth (w : Int) (hv : x.v = "write") (hw : x.w = .int w) (hk : w ∈ (wlF fs).map (·.1))
  | answer (w : Int) (a : D) (e : Nat) (hv : x.v = "write") (hw : x.w = .int w) (he : x.e = some (a, e)) (ha : a = .str "none" ∨ ∃ i, a = .int i)
  | text (a : Str) (e : Nat) (hv : x.v = "read") (he : x.e = some (.str a, e))
theorem bad_turn {nm : Str} {fs : List Dd} {S S' : RL.Sto} {X0 : D} {i : Nat} {x : Xd} {a b c d0 f h0 j k : Option D} (q2 : S'[S.length]? = some (.dict (wlD (wlF fs)))) (B : BadX fs x) :
    ∃ e1 e2, sTup 2 (sCons (sName 3) (sCons (sTup 7 (sCons (sName 4) (sCons (sName 5) (sCons (sName 6) (sCons (sName 7) (sCons (sName 8) (sCons (sName 9) (sCons (sName 10) sNil)))))))) sNil)) (.tup [.int (i : Nat), deedX nm x]) [some X0, some (.ref S.length), some (.ref (S.length + 1)), a, b, c, d0, f, h0, j, k] S' = .ok e1 S' ∧ l_plain_deeds_0 e1 S' = .exc "NotPlain" e2 S' := by
  refine ⟨[some X0, some (.ref S.length), some (.ref (S.length + 1)), some (.int (i : Nat)), some (.int x.h), some (.str nm), some (.str x.v), some x.w, some (ansX x.e), some (.int (x.b : Int)), some (endX x.e)], [some X0, some (.ref S.length), some (.ref (S.length + 1)), some (.int (i : Nat)), some (.int x.h), some (.str nm), some (.str x.v), some x.w, some (ansX x.e), some (.int (x.b : Int)), some (endX x.e)], by simp [deedX], ?_⟩
  generalize ((i : Nat) : Int) = ii
  generalize ((x.b : Nat) : Int) = bb
  cases B with
  | worth w hv hw hk =>
    have I := gIn_dict (S := S') (k := .int w) q2 rfl
    have : (findK (wlD (wlF fs)) (.int w)).isSome = true := by
      cases q : findK (wlD (wlF fs)) (.int w) with
      | some _ => rfl
      | none =>
        obtain ⟨r, hr, e⟩ := List.mem_map.mp hk
        exact absurd (by rw [e]) (findK_none.mp q (.int r.1, .tup [.int r.2.1, oD r.2.2]) (List.mem_map.mpr ⟨r, hr, rfl⟩))
    rw [this] at I
    rw [hv, hw]
    simp [l_plain_deeds_0, I]
  | answer w a e hv hw he ha =>
    have I := gIn_dict (S := S') (k := .int w) q2 rfl
    rw [hv, hw, he]
    have na : gNe a (.str "ok") S' = .ok (.bl true) S' := by
      rcases ha with rfl | ⟨i, rfl⟩
      · simp
      · rfl
    cases q : findK (wlD (wlF fs)) (.int w) with
    | some _ => rw [q] at I; simp [l_plain_deeds_0, I]
    | none => rw [q] at I; simp [l_plain_deeds_0, I, ansX, endX, na]
  | text a e hv he =>
    rw [hv, he]
    simp [l_plain_deeds_0, ansX, endX]
theorem plain_exc {nm : Str} {x E : D} {S S1 S2 : RL.Sto} {L : List D} {e2 : RL.Env} (hx : x = .tup [.tup [.str nm, .str "register"]]) (e1 : m_deeds [.tup [x, E]] (S ++ [.dict (wlD (wlF [])), .lst []]) = .ok (.ref (S.length + 2)) S1) (h1 : S1[S.length + 2]? = some (.lst L))
    (h3 : forL [(S.length + 2, .lst L)] (sTup 2 (sCons (sName 3) (sCons (sTup 7 (sCons (sName 4) (sCons (sName 5) (sCons (sName 6) (sCons (sName 7) (sCons (sName 8) (sCons (sName 9) (sCons (sName 10) sNil)))))))) sNil))) l_plain_deeds_0 (enumD L) [some (.tup [x, E]), some (.ref S.length), some (.ref (S.length + 1)), none, none, none, none, none, none, none, none] S1 = .exc "NotPlain" e2 S2) :
    m_plain_deeds [.tup [x, E]] S = .exc "NotPlain" S2 := by
  have w0 : mergeD [] [(D.int 0, D.tup [.int (-2), .int (-1)])] = wlD (wlF []) := rfl
  have en := enumAny_lst h1
  subst hx
  simp [m_plain_deeds, b_plain_deeds, runB_eq, dFor_eq, newT_ok, dictR_ok, c_FIRST_BEGIN, c_FIRST_END, w0, e1, en, h3]
theorem plain_bad {wr : Int} {nm : Str} {es : List Ev} {fs : List Dd} {Es : List Xv} {xs : List Xd} {i : Nat} {x : Xd} (r : Run wr es fs) (fl : fs.length ≤ 900) (X : XRun Es xs) (hl : Es.length ≤ 900) (pre : xs.take i = (fs.take i).map Dd.x) (hi : i ≤ fs.length) (hx : xs[i]? = some x) (B : BadX (fs.take i) x) {S : RL.Sto} :
    ∃ S', m_plain_deeds [.tup [.tup [.tup [.str nm, .str "register"]], .tup (Es.map (Xv.d nm))]] S = .exc "NotPlain" S' ∧ Gr S S' := by
  have g := r.good
  obtain ⟨S1, e1, g1, h1⟩ := xdeeds_spec (nm := nm) (S := S ++ [.dict (wlD (wlF [])), .lst []]) (x := .tup [.tup [.str nm, .str "register"]]) X (by omega)
  have hL : (S ++ [O.dict (wlD (wlF [])), .lst []]).length = S.length + 2 := by simp
  rw [hL] at e1 h1
  have xl : i < xs.length := (List.getElem?_eq_some_iff.mp hx).1
  have split : enumD (xs.map (deedX nm)) = (enumD (xs.map (deedX nm))).take i ++ .tup [.int (i : Nat), deedX nm x] :: (enumD (xs.map (deedX nm))).drop (i + 1) := by
    have e := enumD_at (xs := xs.map (deedX nm)) (i := i) (x := deedX nm x) (by rw [List.getElem?_map, hx]; rfl)
    obtain ⟨q1, q2⟩ := List.getElem?_eq_some_iff.mp e
    rw [← q2, ← List.drop_eq_getElem_cons q1, List.take_append_drop]
  obtain ⟨e, S', lp, g', q2, q3, q4, a, b, c, d0, f, h0, j, k, rfl⟩ := Lp_inv (gd := [(S.length + 2, .lst (xs.map (deedX nm)))]) (t := sTup 2 (sCons (sName 3) (sCons (sTup 7 (sCons (sName 4) (sCons (sName 5) (sCons (sName 6) (sCons (sName 7) (sCons (sName 8) (sCons (sName 9) (sCons (sName 10) sNil)))))))) sNil))) (f := l_plain_deeds_0) (items := (enumD (xs.map (deedX nm))).take i) (k := 0)
    (env := [some (.tup [.tup [.tup [.str nm, .str "register"]], .tup (Es.map (Xv.d nm))]), some (.ref S.length), some (.ref (S.length + 1)), none, none, none, none, none, none, none, none]) (S := S1)
    (fun i e S' => Gr S S' ∧ S'[S.length]? = some (.dict (wlD (wlF (fs.take i)))) ∧ S'[S.length + 1]? = some (.lst ((rds (fs.take i) 0).map rdD)) ∧ S'[S.length + 2]? = some (.lst (xs.map (deedX nm))) ∧
      ∃ a b c d f h j k, e = [some (.tup [.tup [.tup [.str nm, .str "register"]], .tup (Es.map (Xv.d nm))]), some (.ref S.length), some (.ref (S.length + 1)), a, b, c, d, f, h, j, k])
    (fun i e S' hP => grd_some hP.2.2.2.1)
    (fun t d e S' hd ⟨q1, q2, q3, q4, a, b, c, d0, f, h0, j, k, he⟩ => by
      subst he
      have ht : t < i := by have := (List.getElem?_eq_some_iff.mp hd).1; rw [List.length_take] at this; omega
      rw [List.getElem?_take_of_lt ht] at hd
      obtain ⟨y, hy, rfl⟩ := enumD_get hd
      rw [List.getElem?_map] at hy
      obtain ⟨z, hz, rfl⟩ := Option.map_eq_some_iff.mp hy
      have hz2 : (xs.take i)[t]? = some z := by rw [List.getElem?_take_of_lt ht]; exact hz
      rw [pre, List.getElem?_map, List.getElem?_take_of_lt ht] at hz2
      obtain ⟨dd, hdd, rfl⟩ := Option.map_eq_some_iff.mp hz2
      rw [deedX_x, Nat.zero_add]
      rw [Nat.zero_add] at q2 q3
      exact plain_turn g fl hdd q1 q2 q3 q4)
    ⟨(Gr.app S _).trans g1, by simpa using g1.at (k := S.length) (o := .dict (wlD (wlF []))) (by simp), by simpa [rds] using g1.at (k := S.length + 1) (o := .lst []) (by simp), h1, none, none, none, none, none, none, none, none, rfl⟩
  have il : ((enumD (xs.map (deedX nm))).take i).length = i := by rw [List.length_take, enumD_len, List.length_map]; omega
  rw [il, Nat.zero_add] at q2
  obtain ⟨e1', e2', t1, t2⟩ := bad_turn (nm := nm) (X0 := .tup [.tup [.tup [.str nm, .str "register"]], .tup (Es.map (Xv.d nm))]) (i := i) (a := a) (b := b) (c := c) (d0 := d0) (f := f) (h0 := h0) (j := j) (k := k) q2 B
  have fin := lp_exc (r := (enumD (xs.map (deedX nm))).drop (i + 1)) lp t1 t2
  rw [← split] at fin
  exact ⟨S', plain_exc rfl e1 h1 fin, g'⟩
theorem plain_many {T : List D} {E : D} {S : RL.Sto} (h : ∀ (S : RL.Sto), gNe (.int (T.length : Int)) (.int 1) S = .ok (.bl true) S) : m_plain_deeds [.tup [.tup T, E]] S = .exc "NotPlain" S := by
  simp only [m_plain_deeds, b_plain_deeds, runB_eq]
  have gl : gLen [.tup T] S = .ok (.int (T.length : Int)) S := rfl
  generalize (T.length : Int) = L at *
  simp [gl, -gLen_tup, h, -gNe_int]
theorem plain_kind {nm : Str} {E : D} {S : RL.Sto} : m_plain_deeds [.tup [.tup [.tup [.str nm, .str "cell"]], E]] S = .exc "NotPlain" S := by
  simp [m_plain_deeds, b_plain_deeds, runB_eq]

/-! a second hand writes -/
theorem new_turn {nm : Str} {fs : List Dd} {S S' : RL.Sto} {X0 : D} {i : Nat} {x : Xd} {w : Int} {a b c d0 f h0 j k : Option D} (q2 : S'[S.length]? = some (.dict (wlD (wlF fs)))) (fl : fs.length ≤ 900) (hv : x.v = "write") (hw : x.w = .int w) (hk : w ∉ (wlF fs).map (·.1)) (he : x.e = none ∨ ∃ e, x.e = some (.str "ok", e)) :
    ∃ e1 e2 S2, sTup 2 (sCons (sName 3) (sCons (sTup 7 (sCons (sName 4) (sCons (sName 5) (sCons (sName 6) (sCons (sName 7) (sCons (sName 8) (sCons (sName 9) (sCons (sName 10) sNil)))))))) sNil)) (.tup [.int (i : Nat), deedX nm x]) [some X0, some (.ref S.length), some (.ref (S.length + 1)), a, b, c, d0, f, h0, j, k] S' = .ok e1 S' ∧ l_plain_deeds_0 e1 S' = .nx e2 S2 ∧ (Gr S S' → Gr S S2) ∧ (∀ o, S'[S.length + 2]? = some o → S2[S.length + 2]? = some o) ∧ ∃ a b c d f h j k, e2 = [some X0, some (.ref S.length), some (.ref (S.length + 1)), a, b, c, d, f, h, j, k] := by
  have I := gIn_dict (S := S') (k := .int w) q2 rfl
  have nf : findK (wlD (wlF fs)) (.int w) = none := by
    rw [findK_none]
    intro p hp
    unfold wlD at hp
    obtain ⟨r, hr, rfl⟩ := List.mem_map.mp hp
    intro e
    injection e with e
    exact hk (e ▸ List.mem_map_of_mem hr)
  rw [nf] at I
  have k1 : (wlD (wlF fs)).length < lim := by
    unfold wlD wlF
    rw [List.length_map, List.length_cons]
    have := List.length_filterMap_le wrO fs
    unfold lim; omega
  refine ⟨[some X0, some (.ref S.length), some (.ref (S.length + 1)), some (.int (i : Nat)), some (.int x.h), some (.str nm), some (.str x.v), some x.w, some (ansX x.e), some (.int (x.b : Int)), some (endX x.e)], [some X0, some (.ref S.length), some (.ref (S.length + 1)), some (.int (i : Nat)), some (.int x.h), some (.str nm), some (.str x.v), some x.w, some (ansX x.e), some (.int (x.b : Int)), some (endX x.e)], S'.set S.length (.dict (putD (wlD (wlF fs)) (.int w) (.tup [.int (x.b : Int), endX x.e]))), by simp [deedX], ?_, fun g => g.set (Nat.le_refl _), fun o ho => by rw [at_set_ne (by omega)]; exact ho, _, _, _, _, _, _, _, _, rfl⟩
  generalize ((i : Nat) : Int) = ii
  generalize ((x.b : Nat) : Int) = bb
  rw [hv, hw]
  rcases he with he | ⟨e, he⟩
  · rw [he]; simp [l_plain_deeds_0, I, endX, ansX, newT_ok, q2, k1]
  · rw [he]; simp [l_plain_deeds_0, I, endX, ansX, newT_ok, q2, k1]
theorem plain_ok {nm : Str} {x E : D} {S S1 S2 : RL.Sto} {L : List D} {a b c d f h j k : Option D} (hx : x = .tup [.tup [.str nm, .str "register"]]) (e1 : m_deeds [.tup [x, E]] (S ++ [.dict (wlD (wlF [])), .lst []]) = .ok (.ref (S.length + 2)) S1) (h1 : S1[S.length + 2]? = some (.lst L))
    (h3 : forL [(S.length + 2, .lst L)] (sTup 2 (sCons (sName 3) (sCons (sTup 7 (sCons (sName 4) (sCons (sName 5) (sCons (sName 6) (sCons (sName 7) (sCons (sName 8) (sCons (sName 9) (sCons (sName 10) sNil)))))))) sNil))) l_plain_deeds_0 (enumD L) [some (.tup [x, E]), some (.ref S.length), some (.ref (S.length + 1)), none, none, none, none, none, none, none, none] S1 = .nx [some (.tup [x, E]), some (.ref S.length), some (.ref (S.length + 1)), a, b, c, d, f, h, j, k] S2) :
    m_plain_deeds [.tup [x, E]] S = .ok (.tup [.ref S.length, .ref (S.length + 1)]) S2 := by
  have w0 : mergeD [] [(D.int 0, D.tup [.int (-2), .int (-1)])] = wlD (wlF []) := rfl
  have en := enumAny_lst h1
  subst hx
  simp [m_plain_deeds, b_plain_deeds, runB_eq, dFor_eq, newT_ok, dictR_ok, c_FIRST_BEGIN, c_FIRST_END, w0, e1, en, h3]
theorem plain_two {wr : Int} {nm : Str} {es : List Ev} {fs : List Dd} {Es : List Xv} {x : Xd} {w : Int} (r : Run wr es fs) (fl : fs.length ≤ 900) (X : XRun Es (fs.map Dd.x ++ [x])) (hl : Es.length ≤ 900) (hv : x.v = "write") (hw : x.w = .int w) (hk : w ∉ (wlF fs).map (·.1)) (he : x.e = none ∨ ∃ e, x.e = some (.str "ok", e)) {S : RL.Sto} :
    ∃ S', m_plain_deeds [.tup [.tup [.tup [.str nm, .str "register"]], .tup (Es.map (Xv.d nm))]] S = .ok (.tup [.ref S.length, .ref (S.length + 1)]) S' ∧ Gr S S' := by
  have g := r.good
  obtain ⟨S1, e1, g1, h1⟩ := xdeeds_spec (nm := nm) (S := S ++ [.dict (wlD (wlF [])), .lst []]) (x := .tup [.tup [.str nm, .str "register"]]) X (by omega)
  have hL : (S ++ [O.dict (wlD (wlF [])), .lst []]).length = S.length + 2 := by simp
  rw [hL] at e1 h1
  have en : enumD ((fs.map Dd.x ++ [x]).map (deedX nm)) = enumD (fs.map (deedT nm)) ++ [.tup [.int (fs.length : Nat), deedX nm x]] := by
    rw [List.map_append, List.map_singleton, enumD_snoc, List.map_map]
    have : (deedX nm ∘ Dd.x) = deedT nm := funext fun d => deedX_x d
    rw [this, List.length_map]
  generalize hLL : (fs.map Dd.x ++ [x]).map (deedX nm) = LL at *
  obtain ⟨e, S', lp, g', q2, q3, q4, a, b, c, d0, f, h0, j, k, rfl⟩ := Lp_inv (gd := [(S.length + 2, .lst LL)]) (t := sTup 2 (sCons (sName 3) (sCons (sTup 7 (sCons (sName 4) (sCons (sName 5) (sCons (sName 6) (sCons (sName 7) (sCons (sName 8) (sCons (sName 9) (sCons (sName 10) sNil)))))))) sNil))) (f := l_plain_deeds_0) (items := enumD (fs.map (deedT nm))) (k := 0)
    (env := [some (.tup [.tup [.tup [.str nm, .str "register"]], .tup (Es.map (Xv.d nm))]), some (.ref S.length), some (.ref (S.length + 1)), none, none, none, none, none, none, none, none]) (S := S1)
    (fun i e S' => Gr S S' ∧ S'[S.length]? = some (.dict (wlD (wlF (fs.take i)))) ∧ S'[S.length + 1]? = some (.lst ((rds (fs.take i) 0).map rdD)) ∧ S'[S.length + 2]? = some (.lst LL) ∧
      ∃ a b c d f h j k, e = [some (.tup [.tup [.tup [.str nm, .str "register"]], .tup (Es.map (Xv.d nm))]), some (.ref S.length), some (.ref (S.length + 1)), a, b, c, d, f, h, j, k])
    (fun i e S' hP => grd_some hP.2.2.2.1)
    (fun t d e S' hd ⟨q1, q2, q3, q4, a, b, c, d0, f, h0, j, k, he⟩ => by
      subst he
      obtain ⟨y, hy, rfl⟩ := enumD_get hd
      rw [List.getElem?_map] at hy
      obtain ⟨dd, hdd, rfl⟩ := Option.map_eq_some_iff.mp hy
      rw [Nat.zero_add]
      rw [Nat.zero_add] at q2 q3
      exact plain_turn g fl hdd q1 q2 q3 q4)
    ⟨(Gr.app S _).trans g1, by simpa using g1.at (k := S.length) (o := .dict (wlD (wlF []))) (by simp), by simpa [rds] using g1.at (k := S.length + 1) (o := .lst []) (by simp), h1, none, none, none, none, none, none, none, none, rfl⟩
  rw [enumD_len, List.length_map, Nat.zero_add, List.take_length] at q2
  obtain ⟨e1', e2', S2, t1, t2, t3, t4, a', b', c', d', f', h', j', k', rfl⟩ := new_turn (nm := nm) (X0 := .tup [.tup [.tup [.str nm, .str "register"]], .tup (Es.map (Xv.d nm))]) (i := fs.length) (a := a) (b := b) (c := c) (d0 := d0) (f := f) (h0 := h0) (j := j) (k := k) q2 fl hv hw hk he
  have fin := lp.snoc t1 (.inl t2) (grd_some (t4 _ q4))
  rw [← en] at fin
  exact ⟨S2, plain_ok rfl e1 h1 fin.run, t3 g'⟩
theorem wbo_exc {t : D} {S S1 S2 S3 : RL.Sto} {n m k : Nat} {L : List D} {M : Int} {a : Option D} (e1 : m_plain_deeds [t] S = .ok (.tup [.ref n, .ref m]) S1) (e2 : m_deeds [t] (S1 ++ [.dict []]) = .ok (.ref k) S2) (h2 : S2[k]? = some (.lst L))
    (h3 : forL [(k, .lst L)] (sName 4) l_written_by_one_0 L [some t, some (.ref n), some (.ref m), some (.ref S1.length), none] S2 = .nx [some t, some (.ref n), some (.ref m), some (.ref S1.length), a] S3) (gl : gLen [.ref S1.length] S3 = .ok (.int M) S3) (hM : 1 < M) : m_written_by_one [t] S = .exc "NotPlain" S3 := by
  simp [m_written_by_one, b_written_by_one, runB_eq, dFor_eq, e1, e2, h2, h3, gl, -gLen_ref, hM]
theorem two_hands {t : D} {S S1 S2 : RL.Sto} {n m k : Nat} {nm : Str} {xs : List Xd} {h1 h2 : Int} (xl : xs.length ≤ 900) (e1 : m_plain_deeds [t] S = .ok (.tup [.ref n, .ref m]) S1) (e2 : m_deeds [t] (S1 ++ [.dict []]) = .ok (.ref k) S2) (hk : S2[k]? = some (.lst (xs.map (deedX nm)))) (hd : S2[S1.length]? = some (.dict [])) (kne : k ≠ S1.length)
    (w1 : ∃ d ∈ xs, d.v = "write" ∧ d.h = h1) (w2 : ∃ d ∈ xs, d.v = "write" ∧ d.h = h2) (ne : h1 ≠ h2) (g1 : Gr S S1) (g2 : Gr S1 S2) : ∃ S', m_written_by_one [t] S = .exc "NotPlain" S' ∧ Gr S S' := by
  obtain ⟨e, S', h3, ⟨gI, q2⟩, ⟨ks, q3, q5, q4⟩, a, rfl⟩ := forL_inv (gd := [(k, .lst (xs.map (deedX nm)))]) (t := sName 4) (f := l_written_by_one_0) (items := xs.map (deedX nm)) (env := [some t, some (.ref n), some (.ref m), some (.ref S1.length), none]) (S := S2)
    (fun i e S' => (Gr S1 S' ∧ S'[k]? = some (.lst (xs.map (deedX nm)))) ∧ (∃ ks : List Int, S'[S1.length]? = some (.dict (dk ks)) ∧ ks.length ≤ i ∧ ∀ d ∈ xs.take i, d.v = "write" → d.h ∈ ks) ∧ ∃ a, e = [some t, some (.ref n), some (.ref m), some (.ref S1.length), a])
    (fun i e S' hP => grd_some hP.1.2)
    (fun i it e S' hit ⟨⟨gI, q2⟩, ⟨ks, q3, q5, q4⟩, a, he⟩ => by
      rw [List.getElem?_map] at hit
      obtain ⟨d, hd2, rfl⟩ := Option.map_eq_some_iff.mp hit
      have hi := (List.getElem?_eq_some_iff.mp hd2).1
      subst he
      have tk : xs.take (i + 1) = xs.take i ++ [d] := by rw [List.take_add_one, hd2]; rfl
      by_cases hv : d.v = "write"
      · have k1 : (dk ks).length < lim := by rw [dk_len]; unfold lim; omega
        obtain ⟨ks', p1, p2, p3⟩ : ∃ ks', putD (dk ks) (.int d.h) (.bl true) = dk ks' ∧ ks'.length ≤ ks.length + 1 ∧ ∀ z, z ∈ ks ∨ z = d.h → z ∈ ks' := by
          by_cases c : d.h ∈ ks
          · exact ⟨ks, dk_put c, by omega, fun z hz => by rcases hz with hz | rfl; exact hz; exact c⟩
          · exact ⟨ks ++ [d.h], dk_new c, by simp, fun z hz => by rcases hz with hz | rfl; exact List.mem_append_left _ hz; simp⟩
        refine ⟨_, _, [some t, some (.ref n), some (.ref m), some (.ref S1.length), some (deedX nm d)], S'.set S1.length (.dict (dk ks')), rfl, .inl ?_, ⟨gI.set (Nat.le_refl _), by rw [at_set_ne kne]; exact q2⟩, ⟨ks', setAt (lt_at q3) _, by omega, fun y hy hyv => ?_⟩, _, rfl⟩
        · unfold deedX
          generalize ((d.b : Nat) : Int) = bb
          simp [l_written_by_one_0, hv, q3, k1, p1]
        · rw [tk] at hy
          rcases List.mem_append.mp hy with hy | hy
          · exact p3 _ (.inl (q4 y hy hyv))
          · rw [List.mem_singleton.mp hy]; exact p3 _ (.inr rfl)
      · refine ⟨_, _, [some t, some (.ref n), some (.ref m), some (.ref S1.length), some (deedX nm d)], S', rfl, .inl ?_, ⟨gI, q2⟩, ⟨ks, q3, by omega, fun y hy hyv => ?_⟩, _, rfl⟩
        · unfold deedX
          generalize ((d.b : Nat) : Int) = bb
          simp [l_written_by_one_0, hv]
        · rw [tk] at hy
          rcases List.mem_append.mp hy with hy | hy
          · exact q4 y hy hyv
          · rw [List.mem_singleton.mp hy] at hyv; exact absurd hyv hv)
    ⟨⟨g2, hk⟩, ⟨[], hd, by simp, by simp⟩, none, rfl⟩
  rw [List.length_map, List.take_length] at q4
  obtain ⟨d1, m1, v1, r1⟩ := w1
  obtain ⟨d2, m2, v2, r2⟩ := w2
  have i1 := q4 d1 m1 v1
  have i2 := q4 d2 m2 v2
  have len : 1 < ks.length := by
    cases ks with
    | nil => cases i1
    | cons y r =>
      cases r with
      | nil =>
        rw [List.mem_singleton] at i1 i2
        exact absurd (r1.symm.trans (i1.trans (i2.symm.trans r2))) ne
      | cons _ _ => simp
  have gl : gLen [.ref S1.length] S' = .ok (.int (ks.length : Int)) S' := by simp [q3, dk_len]
  exact ⟨S', wbo_exc e1 e2 hk h3 gl (by omega), g1.trans gI⟩
/-- not plain: written_by_one refuses -/
def NP (t : D) : Prop := ∀ S : RL.Sto, ∃ S', m_written_by_one [t] S = .exc "NotPlain" S' ∧ Gr S S'
theorem NP.plain {t : D} (h : ∀ S : RL.Sto, ∃ S', m_plain_deeds [t] S = .exc "NotPlain" S' ∧ Gr S S') : NP t := fun S => by
  obtain ⟨S', e, g⟩ := h S
  exact ⟨S', by simp [m_written_by_one, b_written_by_one, runB_eq, e], g⟩
theorem NP.reg {t : D} (h : NP t) (S : RL.Sto) : ∃ S', m_is_regular [t] S = .exc "NotPlain" S' ∧ Gr S S' := by
  obtain ⟨S', e, g⟩ := h S
  exact ⟨S', by simp [m_is_regular, b_is_regular, runB_eq, e], g⟩
theorem NP.safe {t : D} (h : NP t) (S : RL.Sto) : ∃ S', m_is_safe [t] S = .exc "NotPlain" S' ∧ Gr S S' := by
  obtain ⟨S', e, g⟩ := h S
  exact ⟨S', by simp [m_is_safe, b_is_safe, runB_eq, e], g⟩
theorem NP.turn {t : D} (h : NP t) (S : RL.Sto) : ∃ S', m_turn_about [t] S = .exc "NotPlain" S' ∧ Gr S S' := by
  obtain ⟨S', e, g⟩ := h S
  exact ⟨S', by simp [m_turn_about, b_turn_about, runB_eq, e], g⟩
theorem NP.refused {t : D} (h : NP t) {w : Int} (hw : w = 0 ∨ w = 1 ∨ w = 2) (S : RL.Sto) : ∃ S', m_law_refused [t, .int w] S = .ok (.bl true) S' ∧ Gr S S' := by
  have A : ∃ S', m_law_asked [t, .int w] S = .exc "NotPlain" S' ∧ Gr S S' := by
    rcases hw with rfl | rfl | rfl
    · obtain ⟨S', e, g⟩ := h.reg S; exact ⟨S', by simp [m_law_asked, b_law_asked, runB_eq, e], g⟩
    · obtain ⟨S', e, g⟩ := h.safe S; exact ⟨S', by simp [m_law_asked, b_law_asked, runB_eq, e], g⟩
    · obtain ⟨S', e, g⟩ := h.turn S; exact ⟨S', by simp [m_law_asked, b_law_asked, runB_eq, e], g⟩
  obtain ⟨S', e, g⟩ := A
  refine ⟨S', ?_, g⟩
  have lk : ([("NotPlain", true)] : List (Str × Bool)).lookup ("NotPlain" : Str) = some true := by decide +kernel
  have o1 : orT [[("NotPlain", false)], [("NotPlain", false)], [("NotPlain", false)], [("NotPlain", false)], [("NotPlain", false)], [("NotPlain", false)], [("NotPlain", false)]] "NotPlain" = some false := by decide +kernel
  have o2 : orT [[("NotPlain", false)], [("NotPlain", false)]] "NotPlain" = some false := by decide +kernel
  simp [m_law_refused, b_law_refused, runB_eq, dTryAs_eq, e, tryAsR_exc lk, dIsE_ok lk, dIsET_ok o1, dIsET_ok o2]

/-! begins, end_of, answered -/
def Ev.h : Ev → Int
  | .bw h _ => h
  | .br h => h
  | .en h _ => h
def isV (wr : Bool) : Option Ev → Bool
  | some (.bw _ _) => wr
  | some (.br _) => !wr
  | _ => false
def vb (wr : Bool) : Str := if wr then "write" else "read"
theorem ev_at {nm : Str} {es : List Ev} {p : Nat} {ev : Ev} (h : es[p]? = some ev) : L2.atI (es.map (Ev.d nm)) (p : Int) = some (ev.d nm) := by
  rw [atI_natCast, List.getElem?_map, h]; rfl
theorem begins_run {E v : D} {L : Int} {RR ds : List D} {S : RL.Sto} (gl : gLen [E] S = .ok (.int L) S) (r1 : rg1 [.int L] S = .ok ⟨RR, []⟩ S) (lim1 : RR.length ≤ lim)
    (lc : lcL [] (cTarget (.inl 2)) (dAnd (dT (dBin gEq (dBin gIx (dBin gIx (dV 0) (dV 2)) (dC (.int 0))) (dC (.str "begin")))) (dT (dBin gEq (dBin gIx (dBin gIx (dV 0) (dV 2)) (dC (.int 3))) (dV 1)))) (dV 2) (wipeE [some E, some v, none] [2]) RR S = .ok ds S) : m_law_begins [E, v] S = .ok (.ref S.length) (S ++ [.lst ds]) := by
  simp [m_law_begins, b_law_begins, runB_eq, gl, r1, dLc_eq, lim1, lc]
theorem begins_turn {E ev : D} {wr : Bool} {e : Ev} {nm : Str} {ki : Int} {S : RL.Sto} {evs : List D} (hE : E = .tup evs) (ea : L2.atI evs ki = some (e.d nm)) : dAnd (dT (dBin gEq (dBin gIx (dBin gIx (dV 0) (dV 2)) (dC (.int 0))) (dC (.str "begin")))) (dT (dBin gEq (dBin gIx (dBin gIx (dV 0) (dV 2)) (dC (.int 3))) (dV 1))) [some E, some (.str (vb wr)), some (.int ki)] S = .ok (isV wr (some e)) S := by
  subst hE
  cases e with
  | bw h w => cases wr <;> simp [ea, Ev.d, isV, vb]
  | br h => cases wr <;> simp [ea, Ev.d, isV, vb]
  | en h a => simp [ea, Ev.d, isV]
theorem begins_spec {nm : Str} {es : List Ev} {wr : Bool} {S : RL.Sto} (hl : es.length ≤ 900) :
    m_law_begins [.tup (es.map (Ev.d nm)), .str (vb wr)] S = .ok (.ref S.length) (S ++ [.lst (((List.range es.length).filter fun k => isV wr es[k]?).map fun k : Nat => D.int (k : Int))]) := by
  have r1 : ∀ S : RL.Sto, rg1 [.int (es.length : Int)] S = .ok ⟨rangeD 0 es.length, []⟩ S := fun S => rg1_nat (by omega)
  have lc := lcL_map (h := fun k : Nat => D.int (0 + (k : Int))) (g := fun k : Nat => D.int (k : Int)) (gd := []) (c := cTarget (.inl 2)) (t := dAnd (dT (dBin gEq (dBin gIx (dBin gIx (dV 0) (dV 2)) (dC (.int 0))) (dC (.str "begin")))) (dT (dBin gEq (dBin gIx (dBin gIx (dV 0) (dV 2)) (dC (.int 3))) (dV 1)))) (f := dV 2) (S := S) (p := fun k => isV wr es[k]?) (items := List.range es.length) (env := wipeE [some (.tup (es.map (Ev.d nm))), some (.str (vb wr)), none] [2]) grd_none (fun k hk => by
    rw [List.mem_range] at hk
    have q := List.getElem?_eq_getElem hk
    generalize es[k] = ev at q
    have ea := ev_at (nm := nm) q
    refine ⟨[some (.tup (es.map (Ev.d nm))), some (.str (vb wr)), some (.int (k : Int))], by rw [Int.zero_add]; rfl, ?_, fun _ => by simp⟩
    rw [q]
    exact begins_turn (ev := .non) rfl ea)
  have lim1 : (rangeD 0 es.length).length ≤ lim := by rw [rangeD_len]; unfold lim; omega
  have gl : gLen [.tup (es.map (Ev.d nm))] S = .ok (.int (es.length : Int)) S := by
    show R.ok (D.int ((es.map (Ev.d nm)).length : Int)) S = _
    rw [List.length_map]
  exact begins_run gl (r1 S) lim1 lc
theorem Run.hasr {wr : Int} {es : List Ev} {fs : List Dd} (r : Run wr es fs) : ∀ p h, es[p]? = some (.br h) → ∃ d ∈ fs, d.b = p ∧ d.w = none ∧ d.h = h := by
  induction r with
  | nil => intro p h e; simp at e
  | bw r hi hw h0 ih =>
    intro p h e
    rcases at_snoc e with e | ⟨_, q⟩
    · obtain ⟨d, hd, q⟩ := ih p h e; exact ⟨d, List.mem_append_left _ hd, q⟩
    · cases q
  | br r hi ih =>
    intro p h e
    rcases at_snoc e with e | ⟨rfl, q⟩
    · obtain ⟨d, hd, q⟩ := ih p h e; exact ⟨d, List.mem_append_left _ hd, q⟩
    · cases q; exact ⟨_, List.mem_append_right _ List.mem_cons_self, rfl, rfl, rfl⟩
  | @en es fs h0 a i d r hd hh ho hw ih =>
    intro p h e
    rcases at_snoc e with e | ⟨_, q⟩
    · obtain ⟨y, hy, q1, q2, q3⟩ := ih p h e
      obtain ⟨j, hj⟩ := List.mem_iff_getElem?.mp hy
      have hi : i < fs.length := (List.getElem?_eq_some_iff.mp hd).1
      by_cases c : j = i
      · subst c
        rw [hd] at hj; cases hj
        exact ⟨_, List.mem_of_getElem? (List.getElem?_set_self hi), q1, q2, q3⟩
      · exact ⟨y, List.mem_of_getElem? (by rw [List.getElem?_set_ne (Ne.symm c)]; exact hj), q1, q2, q3⟩
    · cases q
theorem Run.next {wr : Int} {es : List Ev} {fs : List Dd} (r : Run wr es fs) {d : Dd} (hd : d ∈ fs) {k : Nat} {ev : Ev} (hk : d.b < k) (he : es[k]? = some ev) (hh : ev.h = d.h) : ∃ a e, d.e = some (a, e) ∧ e ≤ k := by
  have g := r.good
  obtain ⟨i, hi⟩ := List.mem_iff_getElem?.mp hd
  obtain ⟨qi, ei⟩ := List.getElem?_eq_some_iff.mp hi
  have ap := List.pairwise_iff_getElem.mp g.apart
  have beg : ∀ y ∈ fs, y.b = k → y.h = d.h → ∃ a e, d.e = some (a, e) ∧ e ≤ k := fun y hy yb yh => by
    obtain ⟨j, hj⟩ := List.mem_iff_getElem?.mp hy
    obtain ⟨qj, ej⟩ := List.getElem?_eq_some_iff.mp hj
    rcases Nat.lt_trichotomy i j with l | l | l
    · have A := ap i j qi qj l
      rw [ei, ej] at A
      obtain ⟨a, e, w1, w2⟩ := A.2.1 yh.symm
      exact ⟨a, e, w1, by omega⟩
    · subst l; rw [hi] at hj; cases hj; omega
    · have A := (ap j i qj qi l).1
      rw [ei, ej] at A
      omega
  cases ev with
  | bw h w =>
    obtain ⟨y, hy, r1, _, r3⟩ := g.has k h w he
    exact beg y hy r1 (r3.trans hh)
  | br h =>
    obtain ⟨y, hy, r1, _, r3⟩ := r.hasr k h he
    exact beg y hy r1 (r3.trans hh)
  | en h a =>
    obtain ⟨y, hy, r1, r2⟩ := g.hen k h a he
    obtain ⟨j, hj⟩ := List.mem_iff_getElem?.mp hy
    obtain ⟨qj, ej⟩ := List.getElem?_eq_some_iff.mp hj
    rcases Nat.lt_trichotomy i j with l | l | l
    · have A := ap i j qi qj l
      rw [ei, ej] at A
      obtain ⟨a', e, w1, w2⟩ := A.2.1 (hh.symm.trans r2.symm)
      have := (g.fin y hy a k r1).1
      exact ⟨a', e, w1, by omega⟩
    · subst l; rw [hi] at hj; cases hj; exact ⟨a, k, r1, Nat.le_refl _⟩
    · have A := ap j i qj qi l
      rw [ei, ej] at A
      obtain ⟨a', e, w1, w2⟩ := A.2.1 (r2.trans hh)
      rw [r1] at w1; cases w1
      omega
theorem end_run {E : D} {at_ L : Int} {items : List D} {S : RL.Sto} {v : D} {x : Option D} (gl : gLen [E] S = .ok (.int L) S) (r : rg2 [.int (at_ + 1), .int L] S = .ok ⟨items, []⟩ S)
    (h : forL [] (sName 2) l_law_end_of_0 items [some E, some (.int at_), none] S = .rt v S ∨ (v = .non ∧ forL [] (sName 2) l_law_end_of_0 items [some E, some (.int at_), none] S = .nx [some E, some (.int at_), x] S)) : m_law_end_of [E, .int at_] S = .ok v S := by
  rcases h with h | ⟨rfl, h⟩
  · simp [m_law_end_of, b_law_end_of, runB_eq, dFor_eq, gl, r, h]
  · simp [m_law_end_of, b_law_end_of, runB_eq, dFor_eq, gl, r, h]
theorem hand_at {nm : Str} {e : Ev} {S : RL.Sto} : gIx (e.d nm) (.int 1) S = .ok (.int e.h) S := by
  cases e <;> simp [Ev.d, Ev.h]
theorem end_turn {E : D} {evs : List D} {nm : Str} {e e0 : Ev} {at_ ki : Int} {S : RL.Sto} (hE : E = .tup evs) (i1 : L2.atI evs ki = some (e.d nm)) (i0 : L2.atI evs at_ = some (e0.d nm)) : l_law_end_of_0 [some E, some (.int at_), some (.int ki)] S = if e.h = e0.h then .rt (.int ki) S else .nx [some E, some (.int at_), some (.int ki)] S := by
  subst hE
  have h1 := hand_at (nm := nm) (e := e) (S := S)
  have h0 := hand_at (nm := nm) (e := e0) (S := S)
  simp only [l_law_end_of_0]
  by_cases c : e.h = e0.h <;> simp [i1, i0, h1, h0, c]
theorem end_spec {wr : Int} {nm : Str} {es : List Ev} {fs : List Dd} {d : Dd} {S : RL.Sto} (r : Run wr es fs) (hl : es.length ≤ 900) (hd : d ∈ fs) : m_law_end_of [.tup (es.map (Ev.d nm)), .int (d.b : Int)] S = .ok (endE d.e) S := by
  have g := r.good
  have bl := (g.beg d hd).1
  obtain ⟨e0, he0, hh0⟩ : ∃ e0, es[d.b]? = some e0 ∧ e0.h = d.h := by
    cases hw : d.w with
    | none => exact ⟨_, (g.beg d hd).2.2 hw, rfl⟩
    | some w => exact ⟨_, ((g.beg d hd).2.1 w hw).1, rfl⟩
  have r2 : rg2 [.int ((d.b : Int) + 1), .int (es.length : Int)] S = .ok ⟨rangeD ((d.b : Int) + 1) (es.length - (d.b + 1)), []⟩ S := rg2_nat (a := d.b + 1) (b := es.length) (by omega) (by omega)
  have gl : gLen [.tup (es.map (Ev.d nm))] S = .ok (.int (es.length : Int)) S := by
    show R.ok (D.int ((es.map (Ev.d nm)).length : Int)) S = _
    rw [List.length_map]
  have items : rangeD ((d.b : Int) + 1) (es.length - (d.b + 1)) = (List.range (es.length - (d.b + 1))).map fun t : Nat => D.int ((d.b : Int) + 1 + (t : Int)) := rfl
  have pD : ∀ t, t < es.length - (d.b + 1) → ∃ ev, es[d.b + 1 + t]? = some ev := fun t ht => ⟨_, List.getElem?_eq_getElem (by omega)⟩
  obtain ⟨A, B⟩ := forL_find (h := fun t : Nat => D.int ((d.b : Int) + 1 + (t : Int))) (gd := []) (t := sName 2) (f := l_law_end_of_0) (p := fun t => decide ((es[d.b + 1 + t]?.map Ev.h) = some d.h)) (z := fun t : Nat => D.int ((d.b : Int) + 1 + (t : Int)))
    (fun e S' => S' = S ∧ ∃ x, e = [some (.tup (es.map (Ev.d nm))), some (.int (d.b : Int)), x]) (fun S' => S' = S) (fun _ _ _ => grd_none) (items := List.range (es.length - (d.b + 1))) (env := [some (.tup (es.map (Ev.d nm))), some (.int (d.b : Int)), none]) (S := S)
    (fun t ht e S' ⟨hS, x, he⟩ => by
      subst hS; subst he
      rw [List.mem_range] at ht
      obtain ⟨ev, hev⟩ := pD t ht
      have i1 := ev_at (nm := nm) hev
      rw [show ((d.b + 1 + t : Nat) : Int) = (d.b : Int) + 1 + (t : Int) by omega] at i1
      have T := end_turn (S := S') rfl i1 (ev_at (nm := nm) he0)
      rw [hev]
      refine ⟨_, S', rfl, fun hp => ⟨[some (.tup (es.map (Ev.d nm))), some (.int (d.b : Int)), some (.int ((d.b : Int) + 1 + (t : Int)))], S', ?_, rfl, _, rfl⟩, fun hp => ⟨S', ?_, rfl⟩⟩
      · have c : ¬ ev.h = e0.h := by rw [hh0]; simpa using hp
        rw [if_neg c] at T
        exact T
      · have c : ev.h = e0.h := by rw [hh0]; simpa using hp
        rw [if_pos c] at T
        exact T)
    ⟨rfl, none, rfl⟩
  cases he : d.e with
  | none =>
    have fn : (List.range (es.length - (d.b + 1))).find? (fun t => decide ((es[d.b + 1 + t]?.map Ev.h) = some d.h)) = none := by
      rw [List.find?_eq_none]
      intro t ht hp
      rw [List.mem_range] at ht
      obtain ⟨ev, hev⟩ := pD t ht
      rw [hev] at hp
      obtain ⟨a, e, q, _⟩ := r.next hd (by omega) hev (by simpa using hp)
      rw [he] at q; cases q
    obtain ⟨e, S', h1, rfl, x, rfl⟩ := A fn
    rw [← items] at h1
    exact end_run gl r2 (.inr ⟨rfl, h1⟩)
  | some ae =>
    obtain ⟨a, e⟩ := ae
    have f := g.fin d hd a e he
    have el := (List.getElem?_eq_some_iff.mp f.2.1).1
    have fs_ : (List.range (es.length - (d.b + 1))).find? (fun t => decide ((es[d.b + 1 + t]?.map Ev.h) = some d.h)) = some (e - (d.b + 1)) := by
      rw [List.find?_range_eq_some]
      refine ⟨?_, by rw [List.mem_range]; omega, fun j hj => ?_⟩
      · rw [show d.b + 1 + (e - (d.b + 1)) = e by omega, f.2.1]; simp [Ev.h]
      · obtain ⟨ev, hev⟩ := pD j (by omega)
        rw [hev]
        simp only [Option.map_some, Bool.not_eq_eq_eq_not, Bool.not_true, decide_eq_false_iff_not]
        intro hp
        obtain ⟨a', e', q1, q2⟩ := r.next hd (k := d.b + 1 + j) (by omega) hev (by simpa using hp)
        rw [he] at q1; cases q1
        omega
    obtain ⟨S', h1, rfl⟩ := B _ fs_
    rw [← items] at h1
    rw [show ((d.b : Int) + 1 + ((e - (d.b + 1) : Nat) : Int)) = (e : Int) by omega] at h1
    exact end_run (x := none) gl r2 (.inl h1)
theorem answered_run0 {E a hd : D} {at_ : Int} {L : List D} {S : RL.Sto} (e0 : m_law_end_of [E, .int at_] S = .ok .non S) (hE : E = .tup L) (ih : (L2.atI L at_).bind (fun d => some d) = some hd) {h : Int} (hh : ∀ S : RL.Sto, gIx hd (.int 1) S = .ok (.int h) S) (hl : L.length ≤ 1000) :
    m_law_answered [E, .int at_, a] S = .ok (.ref S.length) (S ++ [.lst (L ++ [.tup [.str "end", .int h, a]])]) := by
  subst hE
  have ih : L2.atI L at_ = some hd := by simpa using ih
  have ap := gAppend_ok (n := S.length) (ds := L) (y := .tup [.str "end", .int h, a]) (S := S ++ [.lst L]) (by simp) (by omega)
  have st : (S ++ [O.lst L]).set S.length (.lst (L ++ [.tup [.str "end", .int h, a]])) = S ++ [O.lst (L ++ [.tup [.str "end", .int h, a]])] := by simp
  rw [st] at ap
  simp [m_law_answered, b_law_answered, runB_eq, e0, ih, hh, newT_ok, ap]
theorem answered_run1 {E a hd : D} {at_ ei : Int} {e : Nat} {L : List D} {S : RL.Sto} (e0 : m_law_end_of [E, .int at_] S = .ok (.int ei) S) (hE : E = .tup L) (ih : L2.atI L at_ = some hd) {h : Int} (hh : ∀ S : RL.Sto, gIx hd (.int 1) S = .ok (.int h) S) (he : ixN L.length ei = some e) :
    m_law_answered [E, .int at_, a] S = .ok (.ref S.length) (S ++ [.lst (L.set e (.tup [.str "end", .int h, a]))]) := by
  subst hE
  simp [m_law_answered, b_law_answered, runB_eq, e0, ih, hh, newT_ok, he]
theorem answered_spec {wr : Int} {nm : Str} {es : List Ev} {fs : List Dd} {i : Nat} {d : Dd} {a : D} {S : RL.Sto} (r : Run wr es fs) (hl : es.length ≤ 800) (hd : fs[i]? = some d) :
    ∃ (Es : List Xv) (e : Nat), m_law_answered [.tup (es.map (Ev.d nm)), .int (d.b : Int), a] S = .ok (.ref S.length) (S ++ [.lst (Es.map (Xv.d nm))]) ∧ XRun Es ((fs.map Dd.x).set i ⟨d.x.h, d.x.v, d.x.w, d.x.b, some (a, e)⟩) ∧ Es.length ≤ 801 := by
  have g := r.good
  have hm := List.mem_of_getElem? hd
  have E := end_spec (nm := nm) (S := S) r (by omega) hm
  obtain ⟨e0, he0, hh0⟩ : ∃ e0, es[d.b]? = some e0 ∧ e0.h = d.h := by
    cases hw : d.w with
    | none => exact ⟨_, (g.beg d hm).2.2 hw, rfl⟩
    | some w => exact ⟨_, ((g.beg d hm).2.1 w hw).1, rfl⟩
  have i0 := ev_at (nm := nm) he0
  have hh : ∀ S : RL.Sto, gIx (e0.d nm) (.int 1) S = .ok (.int d.h) S := fun S => by rw [← hh0]; exact hand_at
  have X := r.x
  have hx : (fs.map Dd.x)[i]? = some d.x := by rw [List.getElem?_map, hd]; rfl
  have mp : es.map (Ev.d nm) = (es.map Ev.x).map (Xv.d nm) := by rw [List.map_map]; exact (List.map_congr_left fun e _ => (Ev.xd e)).symm
  cases he : d.e with
  | none =>
    rw [he] at E
    have := X.en (a := a) hx rfl (by unfold Dd.x; rw [he]; rfl)
    refine ⟨es.map Ev.x ++ [.en d.h a], (es.map Ev.x).length, ?_, this, by simp; omega⟩
    rw [answered_run0 (a := a) E rfl (by simpa using i0) hh (by simp; omega)]
    rw [List.map_append, ← mp]; rfl
  | some ae =>
    obtain ⟨a0, e⟩ := ae
    rw [he] at E
    have f := g.fin d hm a0 e he
    have el := (List.getElem?_eq_some_iff.mp f.2.1).1
    obtain ⟨_, q⟩ := X.repl (a' := a) hx (by unfold Dd.x; rw [he]; rfl)
    refine ⟨(es.map Ev.x).set e (.en d.h a), e, ?_, q, by simp; omega⟩
    rw [answered_run1 (a := a) (e := e) E rfl i0 hh (ixN_natCast (by simpa using el))]
    rw [List.map_set, ← mp]; rfl

/-! closed, more -/
theorem toP_list {S : RL.Sto} {n k : Nat} {ds : List D} (h : S[n]? = some (.lst ds)) : toP S (k + 1) (.ref n) = (ds.mapM (toP S k)).map .list := by
  unfold toP; simp only [h]
theorem gNe_empty {S : RL.Sto} {n m : Nat} {ds : List D} (hp : ∀ d ∈ ds, plN 23 d = true) (h : S[n]? = some (.lst ds)) (h2 : S[m]? = some (.lst [])) : gNe (.ref n) (.ref m) S = .ok (.bl (!decide (ds = []))) S := by
  obtain ⟨ps, hps⟩ := mapM_all (f := toP S 23) (l := ds) fun d hd => plN_toP (hp d hd)
  have e1 := toP_list (k := 23) h
  have e2 := toP_list (k := 23) h2
  rw [hps] at e1
  have e2' : toP S 24 (.ref m) = some (.list []) := e2
  have e1' : toP S 24 (.ref n) = some (.list ps) := e1
  unfold gNe eqD
  simp only [e1', e2']
  have len : ps = [] ↔ ds = [] := by
    cases ds with
    | nil => simp at hps; simp [hps]
    | cons d l =>
      rw [List.mapM_cons] at hps
      cases q : toP S 23 d with
      | none => rw [q] at hps; cases hps
      | some p =>
        cases q2 : l.mapM (toP S 23) with
        | none => rw [q, q2] at hps; cases hps
        | some r => rw [q, q2] at hps; cases hps; simp
  have : PyData.eqv (.list ps) (.list []) = decide (ds = []) := by
    cases ps with
    | nil => rw [decide_eq_true (len.mp rfl)]; rfl
    | cons p r => rw [decide_eq_false (fun z => by have := len.mpr z; cases this)]; rfl
  rw [this]
theorem ev_pl {nm : Str} (hn : PyData.strOk nm = true) (e : Ev) : plN 23 (e.d nm) = true := by
  have s1 : PyData.strOk ("begin" : Str) = true ∧ PyData.strOk ("end" : Str) = true ∧ PyData.strOk ("write" : Str) = true ∧ PyData.strOk ("read" : Str) = true ∧ PyData.strOk ("ok" : Str) = true := by decide +kernel
  cases e with
  | bw h w => simp [Ev.d, plN, hn, s1]
  | br h => simp [Ev.d, plN, hn, s1]
  | en h a => cases a <;> simp [Ev.d, anD, plN, s1]
theorem last_at {α : Type} {P : α → Bool} {x : α} : ∀ {l : List α}, (l.filter P).getLast? = some x → ∃ p : Nat, l[p]? = some x ∧ P x = true ∧ ∀ (q : Nat) (y : α), p < q → l[q]? = some y → P y = false
  | [], h => by simp at h
  | a :: l, h => by
    cases q : (l.filter P).getLast? with
    | some y =>
      have e : ((a :: l).filter P).getLast? = some y := by
        rw [List.filter_cons]
        split
        · rw [List.getLast?_cons, q]; rfl
        · exact q
      rw [e] at h; cases h
      obtain ⟨p, h1, h2, h3⟩ := last_at q
      refine ⟨p + 1, by simpa using h1, h2, fun k y hk hy => ?_⟩
      obtain ⟨k', rfl⟩ : ∃ k', k = k' + 1 := ⟨k - 1, by omega⟩
      exact h3 k' y (by omega) (by simpa using hy)
    | none =>
      have e0 : l.filter P = [] := List.getLast?_eq_none_iff.mp q
      rw [List.filter_cons, e0] at h
      split at h
      · rename_i hp
        simp at h
        subst h
        refine ⟨0, rfl, hp, fun k y hk hy => ?_⟩
        obtain ⟨k', rfl⟩ : ∃ k', k = k' + 1 := ⟨k - 1, by omega⟩
        have hy' : l[k']? = some y := by simpa using hy
        cases c : P y with
        | false => rfl
        | true =>
          have : y ∈ l.filter P := List.mem_filter.mpr ⟨List.mem_of_getElem? hy', c⟩
          rw [e0] at this; cases this
      · simp at h
def hOf (hand : Int) (e : Ev) : Bool := decide (e.h = hand)
theorem Run.last {wr : Int} {es : List Ev} {fs : List Dd} (r : Run wr es fs) {hand : Int} : (((es.filter (hOf hand)).getLast? = none ∨ ∃ a : Option Int, (es.filter (hOf hand)).getLast? = some (.en hand a)) ∧ idle hand fs) ∨
    ∃ (i : Nat) (d : Dd), fs[i]? = some d ∧ d.h = hand ∧ d.e = none ∧ ((∃ w : Int, (es.filter (hOf hand)).getLast? = some (.bw hand w) ∧ d.w = some w) ∨ ((es.filter (hOf hand)).getLast? = some (.br hand) ∧ d.w = none)) := by
  have g := r.good
  cases q : (es.filter (hOf hand)).getLast? with
  | none =>
    refine .inl ⟨.inl rfl, fun d hd hh _ => ?_⟩
    have e0 : es.filter (hOf hand) = [] := List.getLast?_eq_none_iff.mp q
    have : ∃ e0, es[d.b]? = some e0 ∧ e0.h = d.h := by
      cases hw : d.w with
      | none => exact ⟨_, (g.beg d hd).2.2 hw, rfl⟩
      | some w => exact ⟨_, ((g.beg d hd).2.1 w hw).1, rfl⟩
    obtain ⟨ev, he, hv⟩ := this
    have : ev ∈ es.filter (hOf hand) := List.mem_filter.mpr ⟨List.mem_of_getElem? he, by unfold hOf; simp [hv, hh]⟩
    rw [e0] at this; cases this
  | some ev =>
    obtain ⟨p, h1, h2, h3⟩ := last_at q
    have hh : ev.h = hand := by unfold hOf at h2; simpa using h2
    have noend : ∀ d ∈ fs, d.h = hand → d.b = p → d.e = none := fun d hd dh db => by
      cases he : d.e with
      | none => rfl
      | some ae =>
        obtain ⟨a, e⟩ := ae
        have f := g.fin d hd a e he
        have := h3 e _ (by omega) f.2.1
        unfold hOf at this
        simp [Ev.h, dh] at this
    cases ev with
    | bw h w =>
      have hh : h = hand := hh
      subst hh
      obtain ⟨d, hd, r1, r2, r3⟩ := g.has p h w h1
      obtain ⟨i, hi⟩ := List.mem_iff_getElem?.mp hd
      exact .inr ⟨i, d, hi, r3, noend d hd r3 r1, .inl ⟨w, rfl, r2⟩⟩
    | br h =>
      have hh : h = hand := hh
      subst hh
      obtain ⟨d, hd, r1, r2, r3⟩ := r.hasr p h h1
      obtain ⟨i, hi⟩ := List.mem_iff_getElem?.mp hd
      exact .inr ⟨i, d, hi, r3, noend d hd r3 r1, .inr ⟨rfl, r2⟩⟩
    | en h a =>
      have hh : h = hand := hh
      subst hh
      refine .inl ⟨.inr ⟨a, rfl⟩, fun d hd dh de => ?_⟩
      obtain ⟨y, hy, r1, r2⟩ := g.hen p h a h1
      have : ∃ e0, es[d.b]? = some e0 ∧ e0.h = d.h := by
        cases hw : d.w with
        | none => exact ⟨_, (g.beg d hd).2.2 hw, rfl⟩
        | some w => exact ⟨_, ((g.beg d hd).2.1 w hw).1, rfl⟩
      obtain ⟨ev0, he0, hv0⟩ := this
      by_cases c : p < d.b
      · have := h3 d.b ev0 c he0
        unfold hOf at this
        rw [hv0, dh] at this
        simp at this
      · -- d begins ahead of p and is open: the end at p is its own
        by_cases c2 : d.b = p
        · rw [c2, h1] at he0
          have := Option.some.inj he0
          subst this
          cases hw : d.w with
          | none => have := (g.beg d hd).2.2 hw; rw [c2, h1] at this; cases this
          | some w => have := ((g.beg d hd).2.1 w hw).1; rw [c2, h1] at this; cases this
        · obtain ⟨a', e', q1, _⟩ := r.next hd (k := p) (by omega) h1 (by rw [dh]; rfl)
          rw [de] at q1; cases q1
theorem closed_run {x : D} {hand : Int} {items : List D} {gd : List (Nat × O)} {mine : List D} {S : RL.Sto} (gl : gList [x] S = .ok (.ref S.length) (S ++ [.lst items])) (it : itAny x (S ++ [.lst items]) = .ok ⟨items, gd⟩ (S ++ [.lst items])) (hl : items.length ≤ lim)
    (lc : lcL gd (cTarget (.inl 4)) (dT (dBin gEq (dBin gIx (dV 4) (dC (.int 1))) (dV 1))) (dV 4) (wipeE [some x, some (.int hand), some (.ref S.length), none, none] [4]) items (S ++ [.lst items]) = .ok mine (S ++ [.lst items]))
    (E : gNe (.ref (S.length + 1)) (.ref (S.length + 2)) (S ++ [.lst items, .lst mine, .lst []]) = .ok (.bl (!decide (mine = []))) (S ++ [.lst items, .lst mine, .lst []]))
    (hc : (mine = [] ∨ ∃ h a, L2.atI mine (-1) = some (.tup [.str "end", h, a]) ∧ mine ≠ []) ) :
    m_law_closed [x, .int hand] S = .ok (.ref S.length) (S ++ [.lst items, .lst mine, .lst []]) := by
  have m1 : (S ++ [O.lst items, .lst mine, .lst []])[S.length + 1]? = some (.lst mine) := by rw [List.getElem?_append_right (by omega)]; simp
  generalize hT : S ++ [O.lst items, .lst mine, .lst []] = T at *
  rcases hc with rfl | ⟨h, a, hc, hne⟩
  · rw [decide_eq_true rfl] at E
    simp [m_law_closed, b_law_closed, runB_eq, gl, dLc_eq, it, hl, lc, hT, E]
  · rw [decide_eq_false hne] at E
    simp [m_law_closed, b_law_closed, runB_eq, gl, dLc_eq, it, hl, lc, hT, E, m1, hc]
theorem closed_run2 {x : D} {hand : Int} {items : List D} {gd : List (Nat × O)} {mine : List D} {S : RL.Sto} (gl : gList [x] S = .ok (.ref S.length) (S ++ [.lst items])) (it : itAny x (S ++ [.lst items]) = .ok ⟨items, gd⟩ (S ++ [.lst items])) (hl : items.length ≤ lim)
    (lc : lcL gd (cTarget (.inl 4)) (dT (dBin gEq (dBin gIx (dV 4) (dC (.int 1))) (dV 1))) (dV 4) (wipeE [some x, some (.int hand), some (.ref S.length), none, none] [4]) items (S ++ [.lst items]) = .ok mine (S ++ [.lst items]))
    (E : gNe (.ref (S.length + 1)) (.ref (S.length + 2)) (S ++ [.lst items, .lst mine, .lst []]) = .ok (.bl (!decide (mine = []))) (S ++ [.lst items, .lst mine, .lst []]))
    {h n w : D} {vv : Str} {a : Option Int} (hc : L2.atI mine (-1) = some (.tup [.str "begin", h, n, .str vv, w])) (hne : mine ≠ []) (ha : (vv = "read" ∧ a = some 0) ∨ (vv = "write" ∧ a = none)) (hl2 : items.length ≤ 1000) :
    ∃ S', m_law_closed [x, .int hand] S = .ok (.ref S.length) S' ∧ Gr S S' ∧ S'[S.length]? = some (.lst (items ++ [.tup [.str "end", .int hand, anD a]])) := by
  have m1 : (S ++ [O.lst items, .lst mine, .lst []])[S.length + 1]? = some (.lst mine) := by rw [List.getElem?_append_right (by omega)]; simp
  have m0 : (S ++ [O.lst items, .lst mine, .lst []])[S.length]? = some (.lst items) := by rw [List.getElem?_append_right (by omega)]; simp
  have gT : Gr S (S ++ [O.lst items, .lst mine, .lst []]) := Gr.app _ _
  generalize hT : S ++ [O.lst items, .lst mine, .lst []] = T at *
  rw [decide_eq_false hne] at E
  have n1 : (T ++ [O.lst [.str "ok", .int 0]])[S.length]? = some (.lst items) := app_at m0
  have n2 : (T ++ [O.lst [.str "ok", .int 0]])[S.length + 1]? = some (.lst mine) := app_at m1
  have n3 : (T ++ [O.lst [.str "ok", .int 0]])[T.length]? = some (.lst [.str "ok", .int 0]) := by simp
  have gU : Gr S (T ++ [O.lst [.str "ok", .int 0]]) := gT.trans (Gr.app _ _)
  generalize hU : T ++ [O.lst [.str "ok", .int 0]] = U at *
  have ap := gAppend_ok (y := .tup [.str "end", .int hand, anD a]) n1 (by omega)
  refine ⟨U.set S.length (.lst (items ++ [.tup [.str "end", .int hand, anD a]])), ?_, gU.set (Nat.le_refl _), setAt (lt_at n1) _⟩
  rcases ha with ⟨rfl, rfl⟩ | ⟨rfl, rfl⟩
  · simp only [anD] at ap ⊢
    simp [m_law_closed, b_law_closed, runB_eq, gl, dLc_eq, it, hl, lc, hT, E, m0, m1, hc, newL_ok, hU, n2, n3, newT_ok, ap]
  · simp only [anD] at ap ⊢
    simp [m_law_closed, b_law_closed, runB_eq, gl, dLc_eq, it, hl, lc, hT, E, m0, m1, hc, newL_ok, hU, n2, n3, newT_ok, ap]

/-! closed_spec, more_spec -/
theorem last_map {α β : Type} {l : List α} {x : α} (f : α → β) (h : l.getLast? = some x) : L2.atI (l.map f) (-1) = some (f x) := by
  refine atI_neg ?_
  rw [List.getLast?_map, h]; rfl
theorem closed_lc {nm : Str} {es : List Ev} {x : D} {hand : Int} {gd : List (Nat × O)} {S T : RL.Sto} {r : D} (hg : Grd gd T) : lcL gd (cTarget (.inl 4)) (dT (dBin gEq (dBin gIx (dV 4) (dC (.int 1))) (dV 1))) (dV 4) (wipeE [some x, some (.int hand), some r, none, none] [4]) (es.map (Ev.d nm)) T = .ok ((es.filter (hOf hand)).map (Ev.d nm)) T :=
  lcL_map (h := Ev.d nm) (g := Ev.d nm) (gd := gd) (c := cTarget (.inl 4)) (t := dT (dBin gEq (dBin gIx (dV 4) (dC (.int 1))) (dV 1))) (f := dV 4) (S := T) (p := hOf hand) (items := es) (env := wipeE [some x, some (.int hand), some r, none, none] [4]) hg (fun ev _ => by
    refine ⟨[some x, some (.int hand), some r, none, some (ev.d nm)], rfl, ?_, fun _ => by simp⟩
    have h1 := hand_at (nm := nm) (e := ev) (S := T)
    unfold hOf
    simp [h1])
def xhw (d : Dd) : Int × Option Int := (d.h, d.w)
theorem set_hw {fs : List Dd} {i : Nat} {d : Dd} {e : Option (Option Int × Nat)} (hd : fs[i]? = some d) : (fs.set i ⟨d.h, d.w, d.b, e⟩).map xhw = fs.map xhw := by
  rw [List.map_set]
  refine List.ext_getElem? fun j => ?_
  by_cases c : j = i
  · subst c
    have hj := (List.getElem?_eq_some_iff.mp hd).1
    rw [List.getElem?_set_self (by simpa using hj), List.getElem?_map, hd]; rfl
  · rw [List.getElem?_set_ne (Ne.symm c)]
theorem closed_spec {wr : Int} {nm : Str} {es : List Ev} {fs : List Dd} {x : D} {hand : Int} {S : RL.Sto} (hn : PyData.strOk nm = true) (r : Run wr es fs) (hl : es.length ≤ 900) (hx : x = .tup (es.map (Ev.d nm)) ∨ ∃ k, x = .ref k ∧ S[k]? = some (.lst (es.map (Ev.d nm)))) :
    ∃ es' fs' S', m_law_closed [x, .int hand] S = .ok (.ref S.length) S' ∧ Gr S S' ∧ S'[S.length]? = some (.lst (es'.map (Ev.d nm))) ∧ Run wr es' fs' ∧ idle hand fs' ∧ es'.length ≤ es.length + 1 ∧ fs'.map xhw = fs.map xhw := by
  obtain ⟨gd, gl, it, hg⟩ : ∃ gd, gList [x] S = .ok (.ref S.length) (S ++ [.lst (es.map (Ev.d nm))]) ∧ itAny x (S ++ [.lst (es.map (Ev.d nm))]) = .ok ⟨es.map (Ev.d nm), gd⟩ (S ++ [.lst (es.map (Ev.d nm))]) ∧ Grd gd (S ++ [.lst (es.map (Ev.d nm))]) := by
    rcases hx with rfl | ⟨k, rfl, hk⟩
    · exact ⟨[], by simp, by simp, grd_none⟩
    · have h2 : (S ++ [O.lst (es.map (Ev.d nm))])[k]? = some (.lst (es.map (Ev.d nm))) := app_at hk
      exact ⟨[(k, .lst (es.map (Ev.d nm)))], gList_lst hk, by simp [h2, itO], grd_some h2⟩
  have lc := closed_lc (nm := nm) (es := es) (x := x) (hand := hand) (S := S) (r := .ref S.length) hg
  have hlim : (es.map (Ev.d nm)).length ≤ lim := by rw [List.length_map]; unfold lim; omega
  have E := gNe_empty (S := S ++ [.lst (es.map (Ev.d nm)), .lst ((es.filter (hOf hand)).map (Ev.d nm)), .lst []]) (n := S.length + 1) (m := S.length + 2) (ds := (es.filter (hOf hand)).map (Ev.d nm)) (fun d hd => by
    obtain ⟨e, _, rfl⟩ := List.mem_map.mp hd
    exact ev_pl hn e) (by rw [List.getElem?_append_right (by omega)]; simp) (by rw [List.getElem?_append_right (by omega)]; simp)
  rcases r.last (hand := hand) with ⟨h1, h2⟩ | ⟨i, d, h1, h2, h3, h4⟩
  · refine ⟨es, fs, _, closed_run gl it hlim lc E ?_, Gr.app _ _, by rw [List.getElem?_append_right (by omega)]; simp, r, h2, by omega, rfl⟩
    rcases h1 with h1 | ⟨a, h1⟩
    · left
      rw [List.getLast?_eq_none_iff] at h1
      rw [h1]; rfl
    · right
      refine ⟨.int hand, anD a, last_map (Ev.d nm) h1, ?_⟩
      intro z
      rw [List.map_eq_nil_iff] at z
      rw [z] at h1; cases h1
  · have fin : ∀ a : Option Int, d.w.isSome = a.isNone → ∃ es' fs', (es.map (Ev.d nm) ++ [.tup [.str "end", .int hand, anD a]]) = es'.map (Ev.d nm) ∧ Run wr es' fs' ∧ idle hand fs' ∧ es'.length ≤ es.length + 1 ∧ fs'.map xhw = fs.map xhw := fun a ha => by
      refine ⟨es ++ [.en hand a], fs.set i ⟨d.h, d.w, d.b, some (a, es.length)⟩, by rw [List.map_append]; rfl, r.en h1 h2 h3 ha, fun y hy hh => ?_, by simp, set_hw h1⟩
      intro hz
      obtain ⟨j, hj⟩ := List.mem_iff_getElem?.mp hy
      by_cases c : j = i
      · subst c
        rw [List.getElem?_set_self (List.getElem?_eq_some_iff.mp h1).1] at hj
        cases hj
        cases hz
      · rw [List.getElem?_set_ne (Ne.symm c)] at hj
        have g := r.good
        have ad : aliv es.length d := ⟨(g.beg d (List.mem_of_getElem? h1)).1, fun a e q => by rw [h3] at q; cases q⟩
        have ay : aliv es.length y := ⟨(g.beg y (List.mem_of_getElem? hj)).1, fun a e q => by rw [hz] at q; cases q⟩
        have ap := List.pairwise_iff_getElem.mp g.apart
        obtain ⟨qi, ei⟩ := List.getElem?_eq_some_iff.mp h1
        obtain ⟨qj, ej⟩ := List.getElem?_eq_some_iff.mp hj
        rcases Nat.lt_or_gt_of_ne c with l | l
        · have A := ap j i qj qi l
          rw [ei, ej] at A
          obtain ⟨a', e', q, _⟩ := A.2.1 (hh.trans h2.symm)
          rw [hz] at q; cases q
        · have A := ap i j qi qj l
          rw [ei, ej] at A
          obtain ⟨a', e', q, _⟩ := A.2.1 (h2.trans hh.symm)
          rw [h3] at q; cases q
    have ne : ∀ ev, (es.filter (hOf hand)).getLast? = some ev → (es.filter (hOf hand)).map (Ev.d nm) ≠ [] := fun ev h z => by
      rw [List.map_eq_nil_iff] at z
      rw [z] at h; cases h
    rcases h4 with ⟨w, h4, h5⟩ | ⟨h4, h5⟩
    · obtain ⟨es', fs', q1, q2⟩ := fin none (by rw [h5]; rfl)
      obtain ⟨S', e, g, k⟩ := closed_run2 (a := none) gl it hlim lc E (last_map (Ev.d nm) h4) (ne _ h4) (.inr ⟨rfl, rfl⟩) (by rw [List.length_map]; omega)
      rw [q1] at k
      exact ⟨es', fs', S', e, g, k, q2⟩
    · obtain ⟨es', fs', q1, q2⟩ := fin (some 0) (by rw [h5]; rfl)
      obtain ⟨S', e, g, k⟩ := closed_run2 (a := some 0) gl it hlim lc E (last_map (Ev.d nm) h4) (ne _ h4) (.inl ⟨rfl, rfl⟩) (by rw [List.length_map]; omega)
      rw [q1] at k
      exact ⟨es', fs', S', e, g, k, q2⟩
def moreX (nm : Str) (es : List Ev) (hand w : Int) (ended : Bool) : List Xv := es.map Ev.x ++ .bg hand "write" (.int w) :: (if ended then [.en hand (.str "ok")] else [])
def moreD (es : List Ev) (hand w : Int) (ended : Bool) : Xd := ⟨hand, "write", .int w, es.length, if ended then some (.str "ok", es.length + 1) else none⟩
theorem more_xrun {wr : Int} {es : List Ev} {fs : List Dd} {hand w : Int} {ended : Bool} {nm : Str} (r : Run wr es fs) (hi : idle hand fs) : XRun (moreX nm es hand w ended) (fs.map Dd.x ++ [moreD es hand w ended]) := by
  have a := r.x.bg (v := "write") (w := .int w) (idle_x hi)
  unfold moreX moreD
  cases ended with
  | false => simpa using a
  | true =>
    have b := a.en (i := (fs.map Dd.x).length) (d := ⟨hand, "write", .int w, (es.map Ev.x).length, none⟩) (h := hand) (a := .str "ok") (by simp) rfl rfl
    simpa using b
theorem more_run {x nmD : D} {hand w : Int} {ended : Bool} {S S1 : RL.Sto} {n : Nat} {L : List D} {nm : Str} (e : m_law_closed [x, .int hand] S = .ok (.ref n) S1) (h : S1[n]? = some (.lst L)) (hl : L.length ≤ 1000) (g : Gr S S1) :
    ∃ k S', m_law_more [x, .str nm, .int hand, .int w, .bl ended] S = .ok (.ref k) S' ∧ Gr S S' ∧ S'[k]? = some (.lst (L ++ .tup [.str "begin", .int hand, .str nm, .str "write", .int w] :: (if ended = true then [.tup [.str "end", .int hand, .str "ok"]] else []))) := by
  have h1 : (S1 ++ [O.lst [.tup [.str "begin", .int hand, .str nm, .str "write", .int w]]])[n]? = some (.lst L) := app_at h
  have h2 : (S1 ++ [O.lst [.tup [.str "begin", .int hand, .str nm, .str "write", .int w]]])[S1.length]? = some (.lst [.tup [.str "begin", .int hand, .str nm, .str "write", .int w]]) := by simp
  have g1 : Gr S (S1 ++ [O.lst [.tup [.str "begin", .int hand, .str nm, .str "write", .int w]]]) := g.trans (Gr.app _ _)
  generalize hA : S1 ++ [O.lst [.tup [.str "begin", .int hand, .str nm, .str "write", .int w]]] = A at *
  have ad : gAdd (.ref n) (.ref S1.length) A = .ok (.ref A.length) (A ++ [.lst (L ++ [.tup [.str "begin", .int hand, .str nm, .str "write", .int w]])]) := by
    rw [gAdd_ref, h1, h2]; exact addO_ok (by simp; omega)
  have h3 : (A ++ [O.lst (L ++ [.tup [.str "begin", .int hand, .str nm, .str "write", .int w]])])[A.length]? = some (.lst (L ++ [.tup [.str "begin", .int hand, .str nm, .str "write", .int w]])) := by simp
  have g2 : Gr S (A ++ [O.lst (L ++ [.tup [.str "begin", .int hand, .str nm, .str "write", .int w]])]) := g1.trans (Gr.app _ _)
  have lA := g1.1
  generalize hB : A ++ [O.lst (L ++ [.tup [.str "begin", .int hand, .str nm, .str "write", .int w]])] = B at *
  cases ended with
  | false => exact ⟨A.length, B, by simp [m_law_more, b_law_more, runB_eq, e, newL_ok, hA, ad, -gAdd_ref, newT_ok], g2, by rw [h3]; simp⟩
  | true =>
    have ap := gAppend_ok (y := .tup [.str "end", .int hand, .str "ok"]) h3 (by simp; omega)
    exact ⟨A.length, B.set A.length (.lst (L ++ [.tup [.str "begin", .int hand, .str nm, .str "write", .int w]] ++ [.tup [.str "end", .int hand, .str "ok"]])), by simp [m_law_more, b_law_more, runB_eq, e, newL_ok, hA, ad, -gAdd_ref, newT_ok, h3, ap], g2.set lA, by rw [setAt (lt_at h3)]; simp⟩
theorem more_spec {wr : Int} {nm : Str} {es : List Ev} {fs : List Dd} {x : D} {hand w : Int} {ended : Bool} {S : RL.Sto} (hn : PyData.strOk nm = true) (r : Run wr es fs) (hl : es.length ≤ 900) (hx : x = .tup (es.map (Ev.d nm)) ∨ ∃ k, x = .ref k ∧ S[k]? = some (.lst (es.map (Ev.d nm)))) :
    ∃ k S' Es es' fs', m_law_more [x, .str nm, .int hand, .int w, .bl ended] S = .ok (.ref k) S' ∧ Gr S S' ∧ S'[k]? = some (.lst (Es.map (Xv.d nm))) ∧ Run wr es' fs' ∧ XRun Es (fs'.map Dd.x ++ [moreD es' hand w ended]) ∧ Es.length ≤ es.length + 3 ∧ fs'.map xhw = fs.map xhw ∧ es'.length ≤ es.length + 1 := by
  obtain ⟨es', fs', S1, e, g, k, r', hi, hl', hw⟩ := closed_spec hn r hl hx (hand := hand)
  obtain ⟨k, S', e2, g2, k2⟩ := more_run (nmD := .non) (w := w) (ended := ended) (nm := nm) e k (by rw [List.length_map]; omega) g
  refine ⟨k, S', moreX nm es' hand w ended, es', fs', e2, g2, ?_, r', more_xrun r' hi, ?_, hw, hl'⟩
  · rw [k2]
    unfold moreX
    rw [List.map_append, List.map_map, List.map_cons]
    have : (Xv.d nm ∘ Ev.x) = Ev.d nm := funext fun e => Ev.xd e
    rw [this]
    cases ended <;> rfl
  · unfold moreX
    cases ended <;> simp <;> omega

/-! what is turned is not plain -/
theorem np_bad {wr : Int} {nm : Str} {es : List Ev} {fs : List Dd} {Es : List Xv} {xs : List Xd} {i : Nat} {x : Xd} (r : Run wr es fs) (fl : fs.length ≤ 900) (X : XRun Es xs) (hl : Es.length ≤ 900) (pre : xs.take i = (fs.take i).map Dd.x) (hi : i ≤ fs.length) (hx : xs[i]? = some x) (B : BadX (fs.take i) x) :
    NP (.tup [.tup [.tup [.str nm, .str "register"]], .tup (Es.map (Xv.d nm))]) := NP.plain fun S => plain_bad r fl X hl pre hi hx B
theorem run_len {wr : Int} {es : List Ev} {fs : List Dd} (r : Run wr es fs) : fs.length ≤ es.length := by
  induction r with
  | nil => exact Nat.le_refl _
  | bw r hi hw h0 ih => simp; exact ih
  | br r hi ih => simp; exact ih
  | en r hd hh ho hw ih => simp; omega
theorem hw_mem {fs fs' : List Dd} (h : fs'.map xhw = fs.map xhw) {d : Dd} (hd : d ∈ fs) : ∃ d' ∈ fs', d'.h = d.h ∧ d'.w = d.w := by
  have : xhw d ∈ fs'.map xhw := by rw [h]; exact List.mem_map_of_mem hd
  obtain ⟨d', h1, h2⟩ := List.mem_map.mp this
  unfold xhw at h2
  injection h2 with h3 h4
  exact ⟨d', h1, h3, h4⟩
theorem np_worth {wr : Int} {nm : Str} {es : List Ev} {fs : List Dd} {Es : List Xv} {hand w : Int} {ended : Bool} (r : Run wr es fs) (hl : es.length ≤ 800) (X : XRun Es (fs.map Dd.x ++ [moreD es hand w ended])) (hE : Es.length ≤ 900) (hw : w = 0 ∨ ∃ d ∈ fs, d.w = some w) :
    NP (.tup [.tup [.tup [.str nm, .str "register"]], .tup (Es.map (Xv.d nm))]) := by
  have fl := run_len r
  refine np_bad (i := fs.length) (x := moreD es hand w ended) r (by omega) X hE ?_ (Nat.le_refl _) ?_ (.worth w rfl rfl ?_)
  · rw [List.take_length]
    have : fs.length = (fs.map Dd.x).length := by simp
    rw [this, List.take_left]
  · rw [List.getElem?_append_right (by simp)]; simp
  · rw [List.take_length]; exact wlF_keys.mpr hw
theorem np_hands {wr : Int} {nm : Str} {es : List Ev} {fs : List Dd} {Es : List Xv} {hand w : Int} {ended : Bool} (r : Run wr es fs) (hl : es.length ≤ 800) (X : XRun Es (fs.map Dd.x ++ [moreD es hand w ended])) (hE : Es.length ≤ 900) (hw : ¬ (w = 0 ∨ ∃ d ∈ fs, d.w = some w)) {d : Dd} (hd : d ∈ fs) (hdw : d.w ≠ none) (ne : d.h ≠ hand) :
    NP (.tup [.tup [.tup [.str nm, .str "register"]], .tup (Es.map (Xv.d nm))]) := by
  have fl := run_len r
  intro S
  obtain ⟨S1, e1, g1⟩ := plain_two (nm := nm) (S := S) (w := w) r (by omega) X hE rfl rfl (fun z => hw (wlF_keys.mp z)) (by unfold moreD; cases ended; exact .inl rfl; exact .inr ⟨_, rfl⟩)
  obtain ⟨S2, e2, g2, k2⟩ := xdeeds_spec (nm := nm) (S := S1 ++ [.dict []]) (x := .tup [.tup [.str nm, .str "register"]]) X (by omega)
  have hL : (S1 ++ [O.dict []]).length = S1.length + 1 := by simp
  rw [hL] at e2 k2
  refine two_hands (h1 := d.h) (h2 := hand) (by simp; omega) e1 e2 k2 (g2.at (by simp)) (by omega) ⟨d.x, List.mem_append_left _ (List.mem_map_of_mem hd), ?_, rfl⟩ ⟨moreD es hand w ended, List.mem_append_right _ List.mem_cons_self, rfl, rfl⟩ ne g1 ((Gr.app _ _).trans g2)
  unfold Dd.x
  cases q : d.w with
  | none => exact absurd q hdw
  | some w => rfl
theorem np_set {wr : Int} {nm : Str} {es : List Ev} {fs : List Dd} {Es : List Xv} {i : Nat} {d : Dd} {x : Xd} (r : Run wr es fs) (hl : es.length ≤ 800) (hd : fs[i]? = some d) (X : XRun Es ((fs.map Dd.x).set i x)) (hE : Es.length ≤ 900) (B : BadX (fs.take i) x) :
    NP (.tup [.tup [.tup [.str nm, .str "register"]], .tup (Es.map (Xv.d nm))]) := by
  have fl := run_len r
  have hi := (List.getElem?_eq_some_iff.mp hd).1
  refine np_bad (i := i) (x := x) r (by omega) X hE ?_ (by omega) ?_ B
  · rw [List.take_set_of_le (Nat.le_refl _), List.map_take]
  · rw [List.getElem?_set_self (by simpa using hi)]
theorem np_many {T : List D} {E : D} (h : T.length = 0 ∨ T.length = 2) : NP (.tup [.tup T, E]) := NP.plain fun S => ⟨S, plain_many (fun S => by
  rcases h with h | h <;> (rw [h]; simp)), Gr.refl S⟩
theorem np_kind {nm : Str} {E : D} : NP (.tup [.tup [.tup [.str nm, .str "cell"]], E]) := NP.plain fun S => ⟨S, plain_kind, Gr.refl S⟩
/-! used, fresh -/
def isBg : Ev → Bool
  | .bw _ _ => true
  | .br _ => true
  | .en _ _ => false
def wOf : Ev → D
  | .bw _ w => .int w
  | _ => .non
def wOfI : Ev → Option Int
  | .bw _ w => some w
  | _ => none
def usD (es : List Ev) : List D := (es.filter isBg).map wOf
def usI (es : List Ev) : List Int := es.filterMap wOfI
theorem us_any {es : List Ev} {i : Int} : ((usD es).any fun e => eqF e (.int i)) = decide (i ∈ usI es) := by
  unfold usD usI
  induction es with
  | nil => rfl
  | cons e l ih =>
    cases e with
    | bw h w =>
      rw [List.filter_cons, if_pos (by rfl), List.map_cons, List.any_cons, ih, List.filterMap_cons]
      show ((w == i) || decide (i ∈ List.filterMap wOfI l)) = decide (i ∈ w :: List.filterMap wOfI l)
      rw [Bool.eq_iff_iff, Bool.or_eq_true, beq_iff_eq, decide_eq_true_iff, decide_eq_true_iff, List.mem_cons]
      exact ⟨fun h => h.imp Eq.symm id, fun h => h.imp Eq.symm id⟩
    | br h =>
      rw [List.filter_cons, if_pos (by rfl), List.map_cons, List.any_cons, ih, List.filterMap_cons]
      rfl
    | en h a =>
      rw [List.filter_cons, if_neg (by simp [isBg]), ih, List.filterMap_cons]
      rfl
theorem us_flat {es : List Ev} {i : Int} : (flatD (.int i) && (usD es).all flatD) = true := by
  unfold usD
  rw [Bool.and_eq_true]
  refine ⟨rfl, ?_⟩
  rw [List.all_eq_true]
  intro d hd
  obtain ⟨e, _, rfl⟩ := List.mem_map.mp hd
  cases e <;> rfl
theorem us_notIn {es : List Ev} {i : Int} {n : Nat} {S : Sto} (h : S[n]? = some (.lst (usD es))) : gNotIn (.int i) (.ref n) S = .ok (.bl (!decide (i ∈ usI es))) S := by
  unfold gNotIn inD; simp only [h]
  unfold listIn
  rw [if_pos us_flat, us_any]
def frL (es : List Ev) : List Nat := (List.range 29).filter fun k : Nat => !decide ((1 + (k : Int)) ∈ usI es)
theorem frL_ne {es : List Ev} (h : es.length ≤ 28) : ∃ k r, frL es = k :: r ∧ k < 29 ∧ (1 + (k : Int)) ∉ usI es := by
  cases q : frL es with
  | cons k r =>
    have : k ∈ frL es := by rw [q]; exact List.mem_cons_self
    unfold frL at this
    rw [List.mem_filter, List.mem_range] at this
    exact ⟨k, r, rfl, this.1, by simpa using this.2⟩
  | nil =>
    exfalso
    have all : ∀ k, k < 29 → (1 + ((k : Nat) : Int)) ∈ usI es := fun k hk => Classical.byContradiction fun z => by
      have : k ∈ frL es := by unfold frL; rw [List.mem_filter, List.mem_range]; exact ⟨hk, by simpa using z⟩
      rw [q] at this; cases this
    have nd : ((List.range 29).map fun k : Nat => 1 + (k : Int)).Nodup := by
      unfold List.Nodup
      rw [List.pairwise_map]
      exact (List.pairwise_lt_range (n := 29)).imp fun {a b} hab => by omega
    have := sub_len (m := usI es) nd fun x hx => by
      obtain ⟨k, hk, rfl⟩ := List.mem_map.mp hx
      exact all k (List.mem_range.mp hk)
    have l2 : (usI es).length ≤ es.length := List.length_filterMap_le _ _
    simp at this
    omega
theorem us_mem {wr : Int} {es : List Ev} {fs : List Dd} (r : Run wr es fs) {d : Dd} (hd : d ∈ fs) {w : Int} (hw : d.w = some w) : w ∈ usI es := by
  have := ((r.good.beg d hd).2.1 w hw).1
  unfold usI
  rw [List.mem_filterMap]
  exact ⟨_, List.mem_of_getElem? this, rfl⟩
theorem used_lc {nm : Str} {es : List Ev} {env : RL.Env} {S : RL.Sto} (hl : env.length = 14) : lcL [] (cTarget (.inl 12)) (dT (dBin gEq (dBin gIx (dV 12) (dC (.int 0))) (dC (.str "begin")))) (dBin gIx (dV 12) (dC (.int 4))) env (es.map (Ev.d nm)) S = .ok (usD es) S :=
  lcL_map (h := Ev.d nm) (g := wOf) (gd := []) (c := cTarget (.inl 12)) (t := dT (dBin gEq (dBin gIx (dV 12) (dC (.int 0))) (dC (.str "begin")))) (f := dBin gIx (dV 12) (dC (.int 4))) (S := S) (p := isBg) (items := es) (env := env) grd_none (fun ev _ => by
    have this : (env.set 12 (some (ev.d nm)))[12]? = some (some (ev.d nm)) := List.getElem?_set_self (by omega)
    refine ⟨env.set 12 (some (ev.d nm)), rfl, ?_, ?_⟩
    · generalize env.set 12 (some (ev.d nm)) = E at this ⊢
      cases ev <;> simp [this, Ev.d, isBg]
    · generalize env.set 12 (some (ev.d nm)) = E at this ⊢
      cases ev <;> simp [this, Ev.d, isBg, wOf])
theorem fresh_lc {es : List Ev} {env : RL.Env} {S : RL.Sto} {n : Nat} (hl : env.length = 14) (h9 : env[9]? = some (some (.ref n))) (hn : S[n]? = some (.lst (usD es))) : lcL [] (cTarget (.inl 13)) (dT (dBin gNotIn (dV 13) (dV 9))) (dV 13) env (rangeD 1 29) S = .ok ((frL es).map fun k : Nat => D.int (1 + (k : Int))) S :=
  lcL_map (h := fun k : Nat => D.int (1 + (k : Int))) (g := fun k : Nat => D.int (1 + (k : Int))) (gd := []) (c := cTarget (.inl 13)) (t := dT (dBin gNotIn (dV 13) (dV 9))) (f := dV 13) (S := S) (p := fun k : Nat => !decide ((1 + (k : Int)) ∈ usI es)) (items := List.range 29) (env := env) grd_none (fun k _ => by
    generalize ((1 : Int) + (k : Int)) = ki
    have a : (env.set 13 (some (.int ki)))[13]? = some (some (.int ki)) := List.getElem?_set_self (by omega)
    have b : (env.set 13 (some (.int ki)))[9]? = some (some (.ref n)) := by rw [List.getElem?_set_ne (by omega)]; exact h9
    have c := us_notIn (i := ki) hn
    refine ⟨env.set 13 (some (.int ki)), rfl, ?_, ?_⟩
    · generalize env.set 13 (some (.int ki)) = E at a b ⊢
      simp [a, b, c]
    · generalize env.set 13 (some (.int ki)) = E at a b ⊢
      simp [a])

/-! a second thing beside -/
theorem RowAt.gr {S S' : Sto} {n : Nat} (h : RowAt S n) (g : Gr S S') : RowAt S' n := by
  obtain ⟨a, w, c, q, r⟩ := h
  exact ⟨a, w, c, g.at q, r⟩
theorem strOk_iff {n : Str} : PyData.strOk n = true ↔ ∀ x ∈ n.cps.toList, x < 1114112 := by
  unfold PyData.strOk
  rw [← Array.all_toList, List.all_eq_true]
  constructor
  · intro h x hx; simpa using h x hx
  · intro h x hx; simpa using h x hx
theorem strOk_add {a b : Str} (ha : PyData.strOk a = true) (hb : PyData.strOk b = true) : PyData.strOk (a ++ b) = true := by
  rw [strOk_iff] at *
  intro x hx
  have e : (a ++ b).cps.toList = a.cps.toList ++ b.cps.toList := Array.toList_append
  rw [e] at hx
  rcases List.mem_append.mp hx with h | h
  · exact ha x h
  · exact hb x h
theorem strOk_cut {a : Str} {lo hi : Option Int} (ha : PyData.strOk a = true) : PyData.strOk (cutS a lo hi) = true := by
  rw [strOk_iff] at *
  intro x hx
  unfold cutS at hx
  refine ha x ?_
  simp at hx
  exact List.mem_of_mem_drop (List.mem_of_mem_take hx)
def beTh (a b : Str) : D := .tup [.str a, .str b]
def bePl (a b : Str) : PyData := .tuple [.str a, .str b]
theorem beTh_toP {S : Sto} {a b : Str} (ha : PyData.strOk a = true) (hb : PyData.strOk b = true) : toP S 24 (beTh a b) = some (bePl a b) := by
  unfold beTh bePl toP
  simp only [List.mapM_cons, List.mapM_nil]
  unfold toP
  simp [ha, hb]
theorem sort2_ok {a b c d : Str} (ha : PyData.strOk a = true) (hb : PyData.strOk b = true) (hc : PyData.strOk c = true) (hd : PyData.strOk d = true) {n : Nat} {S : Sto} (h : S[n]? = some (.lst [beTh a b, beTh c d])) :
    ∃ L, gSorted [.ref n] S = .ok (.ref S.length) (S ++ [.lst L]) ∧ L.length = 2 := by
  refine ⟨(sortZ [beTh a b, beTh c d] [bePl a b, bePl c d]).map (·.1), gSorted_ok (ds := [beTh a b, beTh c d]) (by unfold srcL; simp only [h]) ?_, ?_⟩
  · unfold sortP
    rw [List.mapM_cons, beTh_toP ha hb, List.mapM_cons, beTh_toP hc hd]
    simp only [List.mapM_nil]
    exact if_pos ⟨rfl, rfl, by unfold lim; show 2 ≤ 16777216; omega⟩
  · unfold sortZ
    rw [List.length_map, List.length_mergeSort]; rfl
noncomputable def bsF : DS := (dRet (dTup (dConsA (dCB gTuple (dConsA (dCB gSorted (dConsA (dLst (dConsA (dBin gIx (dV 2) (dC (.int 0))) (dConsA (dTup (dConsA (dV 5) (dConsA (dV 6) dNilA))) dNilA))) dNilA)) dNilA)) (dConsA (dV 10) dNilA))))
theorem bsF_spec {nm other kd : Str} {k : Nat} {S : Sto} {x0 x1 x3 x4 x7 x8 x9 : Option D} (h1 : PyData.strOk nm = true) (h2 : PyData.strOk other = true) (h3 : PyData.strOk kd = true) :
    ∃ L S', bsF [x0, x1, some (.tup [beTh nm "register"]), x3, x4, some (.str other), some (.str kd), x7, x8, x9, some (.ref k)] S = .rt (.tup [.tup L, .ref k]) S' ∧ L.length = 2 ∧ Gr S S' := by
  obtain ⟨L, e, l⟩ := sort2_ok (S := S ++ [.lst [beTh nm "register", beTh other kd]]) (n := S.length) h1 (by decide +kernel : PyData.strOk ("register" : Str) = true) h2 h3 (by simp)
  have t := gTuple_lst (n := (S ++ [O.lst [beTh nm "register", beTh other kd]]).length) (ds := L) (S := S ++ [.lst [beTh nm "register", beTh other kd]] ++ [.lst L]) (by simp)
  refine ⟨L, S ++ [.lst [beTh nm "register", beTh other kd]] ++ [.lst L], ?_, l, (Gr.app _ _).trans (Gr.app _ _)⟩
  have nb : D.tup [.str other, .str kd] = beTh other kd := rfl
  generalize hA : S ++ [O.lst [beTh nm "register", beTh other kd]] = A at *
  generalize hB : A ++ [O.lst L] = B at *
  unfold bsF
  simp [newT_ok, newL_ok, nb, hA, e, hB, t]
noncomputable def bsI : DS :=
  (dIf (dT (dBin gEq (dCall 2 m_law_take (dConsA (dV 1) (dConsA (dC (.int 2)) dNilA))) (dC (.int 1)))) (dSeq (dSet 10 (dBin gAdd (dCall 2 m_law_closed (dConsA (dV 10) (dConsA (dC (.int 0)) dNilA))) (dLst (dConsA (dTup (dConsA (dC (.str "begin")) (dConsA (dC (.int 0)) (dConsA (dV 5) (dConsA (dV 8) (dConsA (dV 9) dNilA)))))) dNilA))))
  (dIf (dT (dBin gEq (dCall 2 m_law_take (dConsA (dV 1) (dConsA (dC (.int 2)) dNilA))) (dC (.int 1)))) (dDrop (dMt "list" gAppend (dV 10) (dConsA (dTup (dConsA (dC (.str "end")) (dConsA (dC (.int 0)) (dConsA (dBin gIx (dLst (dConsA (dC (.str "ok")) (dConsA (dC (.int 0)) dNilA))) (dCB gInt (dConsA (dBin gNe (dV 8) (dC (.str "put"))) dNilA))) dNilA)))) dNilA))) dSkip)) dSkip)
theorem bsI_spec {wr : Int} {nm other v : Str} {w : D} {es : List Ev} {fs : List Dd} {n k : Nat} {S : Sto} {x0 x2 x3 x4 x6 x7 : Option D} (hn : PyData.strOk nm = true) (r : Run wr es fs) (hl : es.length ≤ 800) (hR : RowAt S n) (hk : S[k]? = some (.lst (es.map (Ev.d nm)))) (kn : k ≠ n) :
    ∃ k' L S', bsI [x0, some (.ref n), x2, x3, x4, some (.str other), x6, x7, some (.str v), some w, some (.ref k)] S = .nx [x0, some (.ref n), x2, x3, x4, some (.str other), x6, x7, some (.str v), some w, some (.ref k')] S' ∧ S'[k']? = some (.lst L) := by
  obtain ⟨t, S1, e1, t0, t1, R1, K1⟩ := take_spec hR (m := 2) (by omega) (by decide)
  have k1 := K1.at hk kn
  by_cases c : t = 1
  · subst c
    obtain ⟨es', fs', S2, e2, g2, k2, r2, i2, l2, _⟩ := closed_spec (hand := 0) hn r (by omega) (.inr ⟨k, rfl, k1⟩)
    have h1 : (S2 ++ [O.lst [.tup [.str "begin", .int 0, .str other, .str v, w]]])[S1.length]? = some (.lst (es'.map (Ev.d nm))) := app_at k2
    have h2 : (S2 ++ [O.lst [.tup [.str "begin", .int 0, .str other, .str v, w]]])[S2.length]? = some (.lst [.tup [.str "begin", .int 0, .str other, .str v, w]]) := by simp
    have R2 := (R1.gr g2).app [O.lst [.tup [.str "begin", .int 0, .str other, .str v, w]]]
    generalize hA : S2 ++ [O.lst [.tup [.str "begin", .int 0, .str other, .str v, w]]] = A at *
    have ad : gAdd (.ref S1.length) (.ref S2.length) A = .ok (.ref A.length) (A ++ [.lst (es'.map (Ev.d nm) ++ [D.tup [.str "begin", .int 0, .str other, .str v, w]])]) := by
      rw [gAdd_ref, h1, h2]; exact addO_ok (by simp; omega)
    have h3 : (A ++ [O.lst (es'.map (Ev.d nm) ++ [D.tup [.str "begin", .int 0, .str other, .str v, w]])])[A.length]? = some (.lst (es'.map (Ev.d nm) ++ [D.tup [.str "begin", .int 0, .str other, .str v, w]])) := by simp
    have R3 := R2.app [O.lst (es'.map (Ev.d nm) ++ [D.tup [.str "begin", .int 0, .str other, .str v, w]])]
    have An : A.length ≠ n := by have := R2.ne; omega
    have hll : (es'.map (Ev.d nm) ++ [D.tup [.str "begin", .int 0, .str other, .str v, w]]).length ≤ 1000 := by simp; omega
    generalize es'.map (Ev.d nm) ++ [D.tup [.str "begin", .int 0, .str other, .str v, w]] = L at *
    generalize hB : A ++ [O.lst L] = B at *
    obtain ⟨u, S3, e3, u0, u1, R4, K3⟩ := take_spec R3 (m := 2) (by omega) (by decide)
    have h4 := K3.at h3 An
    by_cases c : u = 1
    · subst c
      have h5 : (S3 ++ [O.lst [.str "ok", .int 0]])[A.length]? = some (.lst L) := app_at h4
      have h6 : (S3 ++ [O.lst [.str "ok", .int 0]])[S3.length]? = some (.lst [.str "ok", .int 0]) := by simp
      generalize hC : S3 ++ [O.lst [.str "ok", .int 0]] = C at *
      by_cases cv : v = "put"
      · subst cv
        have ap := gAppend_ok (y := .tup [.str "end", .int 0, .str "ok"]) h5 (by omega)
        exact ⟨A.length, L ++ [.tup [.str "end", .int 0, .str "ok"]], _, by simp [bsI, e1, e2, newL_ok, newT_ok, hA, ad, -gAdd_ref, hB, e3, hC, h4, h6, h5, ap]; rfl, by rw [setAt (lt_at h5)]⟩
      · have ap := gAppend_ok (y := .tup [.str "end", .int 0, .int 0]) h5 (by omega)
        exact ⟨A.length, L ++ [.tup [.str "end", .int 0, .int 0]], _, by simp [bsI, e1, e2, newL_ok, newT_ok, hA, ad, -gAdd_ref, hB, e3, hC, h4, h6, h5, ap, cv]; rfl, by rw [setAt (lt_at h5)]⟩
    · exact ⟨A.length, L, S3, by simp [bsI, e1, e2, newL_ok, newT_ok, hA, ad, -gAdd_ref, hB, e3, c], h4⟩
  · exact ⟨k, _, S1, by simp [bsI, e1, c], k1⟩
def kindsB : List D := [.str "register", .str "counter", .str "queue", .str "set", .str "cell"]
def actsB : List D := [.tup [.str "read", .non], .tup [.str "add", .int 4], .tup [.str "put", .int 4], .tup [.str "has", .int 4], .tup [.str "swap", .tup [.int 0, .int 4]]]
theorem kinds_at {k : Int} (h0 : 0 ≤ k) (h1 : k < 5) : ∃ kd v w, PyData.strOk kd = true ∧ L2.atI kindsB k = some (.str kd) ∧ L2.atI actsB k = some (.tup [.str v, w]) ∧ ∀ (S : Sto) (n : Nat), S[n]? = some (.lst kindsB) → gIndex (.ref n) [.str kd] S = .ok (.int k) S := by
  have : k = 0 ∨ k = 1 ∨ k = 2 ∨ k = 3 ∨ k = 4 := by omega
  rcases this with rfl | rfl | rfl | rfl | rfl
  · refine ⟨"register", "read", .non, by decide +kernel, rfl, rfl, fun S n h => ?_⟩
    unfold gIndex itemsL; simp only [h]; rfl
  · refine ⟨"counter", "add", .int 4, by decide +kernel, rfl, rfl, fun S n h => ?_⟩
    unfold gIndex itemsL; simp only [h]; rfl
  · refine ⟨"queue", "put", .int 4, by decide +kernel, rfl, rfl, fun S n h => ?_⟩
    unfold gIndex itemsL; simp only [h]; rfl
  · refine ⟨"set", "has", .int 4, by decide +kernel, rfl, rfl, fun S n h => ?_⟩
    unfold gIndex itemsL; simp only [h]; rfl
  · refine ⟨"cell", "swap", .tup [.int 0, .int 4], by decide +kernel, rfl, rfl, fun S n h => ?_⟩
    unfold gIndex itemsL; simp only [h]; rfl
noncomputable def bsR : DS :=
  (dSeq (dSet 6 (dBin gIx (dLst (dConsA (dC (.str "register")) (dConsA (dC (.str "counter")) (dConsA (dC (.str "queue")) (dConsA (dC (.str "set")) (dConsA (dC (.str "cell")) dNilA)))))) (dCall 2 m_law_take (dConsA (dV 1) (dConsA (dC (.int 5)) dNilA)))))
  (dSeq (dSet 7 (dLst (dConsA (dTup (dConsA (dC (.str "read")) (dConsA (dC .non) dNilA))) (dConsA (dTup (dConsA (dC (.str "add")) (dConsA (dC (.int 4)) dNilA))) (dConsA (dTup (dConsA (dC (.str "put")) (dConsA (dC (.int 4)) dNilA))) (dConsA (dTup (dConsA (dC (.str "has")) (dConsA (dC (.int 4)) dNilA))) (dConsA (dTup (dConsA (dC (.str "swap")) (dConsA (dTup (dConsA (dC (.int 0)) (dConsA (dC (.int 4)) dNilA))) dNilA))) dNilA)))))))
  (dSeq (dAsg (dBin gIx (dV 7) (dMt "list" gIndex (dLst (dConsA (dC (.str "register")) (dConsA (dC (.str "counter")) (dConsA (dC (.str "queue")) (dConsA (dC (.str "set")) (dConsA (dC (.str "cell")) dNilA)))))) (dConsA (dV 6) dNilA))) (sTup 2 (sCons (sName 8) (sCons (sName 9) sNil))))
  (dSeq (dSet 10 (dCB gList (dConsA (dV 3) dNilA)))
  (dSeq bsI bsF)))))
theorem bsR_spec {wr : Int} {nm other : Str} {es : List Ev} {fs : List Dd} {n : Nat} {S : Sto} {x0 x4 x6 x7 x8 x9 x10 : Option D} (hn : PyData.strOk nm = true) (ho : PyData.strOk other = true) (r : Run wr es fs) (hl : es.length ≤ 800) (hR : RowAt S n) :
    ∃ T k L S', bsR [x0, some (.ref n), some (.tup [beTh nm "register"]), some (.tup (es.map (Ev.d nm))), x4, some (.str other), x6, x7, x8, x9, x10] S = .rt (.tup [.tup T, .ref k]) S' ∧ T.length = 2 ∧ S'[k]? = some (.lst L) := by
  have hA : (S ++ [O.lst kindsB])[S.length]? = some (.lst kindsB) := by simp
  have RA := hR.app [O.lst kindsB]
  have nl := hR.ne
  have kb : kindsB = [.str "register", .str "counter", .str "queue", .str "set", .str "cell"] := rfl
  have ab : actsB = [.tup [.str "read", .non], .tup [.str "add", .int 4], .tup [.str "put", .int 4], .tup [.str "has", .int 4], .tup [.str "swap", .tup [.int 0, .int 4]]] := rfl
  generalize hAA : S ++ [O.lst kindsB] = A at *
  obtain ⟨t, B, e1, t0, t1, RB, K1⟩ := take_spec RA (m := 5) (by omega) (by decide)
  have hB := K1.at hA (by omega)
  obtain ⟨kd, v, w, kdo, q1, q2, q3⟩ := kinds_at t0 t1
  have hC : (B ++ [O.lst actsB])[B.length]? = some (.lst actsB) := by simp
  have RC := RB.app [O.lst actsB]
  generalize hCC : B ++ [O.lst actsB] = C at *
  have hD1 : (C ++ [O.lst kindsB])[B.length]? = some (.lst actsB) := app_at hC
  have hD2 : (C ++ [O.lst kindsB])[C.length]? = some (.lst kindsB) := by simp
  have RD := RC.app [O.lst kindsB]
  have lC := RC.ne
  generalize hDD : C ++ [O.lst kindsB] = E at *
  have q3 := q3 E C.length hD2
  have hE : (E ++ [O.lst (es.map (Ev.d nm))])[E.length]? = some (.lst (es.map (Ev.d nm))) := by simp
  have RE := RD.app [O.lst (es.map (Ev.d nm))]
  have lE := RD.ne
  generalize hEE : E ++ [O.lst (es.map (Ev.d nm))] = F at *
  obtain ⟨k', L, S5, e5, k5⟩ := bsI_spec (other := other) (v := v) (w := w) (x0 := x0) (x2 := some (.tup [beTh nm "register"])) (x3 := some (.tup (es.map (Ev.d nm)))) (x4 := x4) (x6 := some (.str kd)) (x7 := some (.ref B.length)) hn r hl RE hE (by omega)
  obtain ⟨T, S6, e6, l6, g6⟩ := bsF_spec (nm := nm) (other := other) (kd := kd) (k := k') (S := S5) (x0 := x0) (x1 := some (.ref n)) (x3 := some (.tup (es.map (Ev.d nm)))) (x4 := x4) (x7 := some (.ref B.length)) (x8 := some (.str v)) (x9 := some w) hn ho kdo
  refine ⟨T, k', L, S6, ?_, l6, g6.at k5⟩
  have nK : ∀ S : Sto, newL [.str "register", .str "counter", .str "queue", .str "set", .str "cell"] S = .ok (.ref S.length) (S ++ [O.lst kindsB]) := fun S => by rw [newL_ok (by simp)]; rfl
  have nA : ∀ S : Sto, newL [.tup [.str "read", .non], .tup [.str "add", .int 4], .tup [.str "put", .int 4], .tup [.str "has", .int 4], .tup [.str "swap", .tup [.int 0, .int 4]]] S = .ok (.ref S.length) (S ++ [O.lst actsB]) := fun S => by rw [newL_ok (by simp)]; rfl
  clear kb ab
  generalize kindsB = KB at *
  generalize actsB = AB at *
  simp [bsR, nK, nA, hAA, e1, hB, q1, newT_ok, hCC, hDD, q3, hD1, q2, hEE, e5, e6]

theorem bs_split : b_law_beside = (dSeq (dAsg (dV 0) (sTup 2 (sCons (sName 2) (sCons (sName 3) sNil))))
  (dSeq (dSet 4 (dBin gIx (dBin gIx (dV 2) (dC (.int 0))) (dC (.int 0))))
  (dSeq (dSet 5 (dSl gSl (dBin gIx (dLst (dConsA (dC (.str "a")) (dConsA (dC (.str "zz")) (dConsA (dBin gAdd (dV 4) (dC (.str "q"))) (dConsA (dBin gAdd (dC (.str "x")) (dV 4)) dNilA))))) (dCall 2 m_law_take (dConsA (dV 1) (dConsA (dC (.int 4)) dNilA)))) dNoPart (dPart (dC (.int 8)))))
  (dSeq (dIf (dT (dBin gEq (dV 5) (dV 4))) (dSet 5 (dBin gAdd (dSl gSl (dV 4) dNoPart (dPart (dUn gNeg (dC (.int 1))))) (dBin gIx (dLst (dConsA (dC (.str "b")) (dConsA (dC (.str "c")) dNilA))) (dCB gInt (dConsA (dBin gEq (dBin gIx (dV 4) (dUn gNeg (dC (.int 1)))) (dC (.str "b"))) dNilA))))) dSkip)
  bsR)))) := rfl
theorem gIx_last {nm : Str} {S : Sto} (h1 : 1 ≤ nm.length) (h2 : nm.length ≤ 100) : ∃ c : Str, gIx (.str nm) (.int (-1)) S = .ok (.str c) S := by
  have : ∃ c, nm.cps.toList.getLast? = some c := by
    cases q : nm.cps.toList.getLast? with
    | some c => exact ⟨c, rfl⟩
    | none =>
      rw [List.getLast?_eq_none_iff] at q
      have : nm.cps.toList.length = nm.length := by rw [Array.length_toList]; rfl
      rw [q] at this; simp at this; omega
  obtain ⟨c, hc⟩ := this
  refine ⟨⟨#[c]⟩, ?_⟩
  show (if nm.length ≤ lim then (match L2.atI nm.cps.toList (-1) with
    | some c => R.ok (D.str ⟨#[c]⟩) S
    | none => .err) else .err) = _
  rw [if_pos (by unfold lim; omega), atI_neg hc]
theorem beside_spec {wr : Int} {nm : Str} {es : List Ev} {fs : List Dd} {n : Nat} {S : Sto} (hn : PyData.strOk nm = true) (h1 : 1 ≤ nm.length ∧ nm.length ≤ 8) (r : Run wr es fs) (hl : es.length ≤ 800) (hR : RowAt S n) :
    ∃ T k L S', m_law_beside [taleD nm es, .ref n] S = .ok (.tup [.tup T, .ref k]) S' ∧ T.length = 2 ∧ S'[k]? = some (.lst L) := by
  have lz : ("q" : Str).length = 1 ∧ ("x" : Str).length = 1 ∧ ("a" : Str).length = 1 ∧ ("zz" : Str).length = 2 ∧ ("b" : Str).length = 1 ∧ ("c" : Str).length = 1 := by decide +kernel
  have so : PyData.strOk ("q" : Str) = true ∧ PyData.strOk ("x" : Str) = true ∧ PyData.strOk ("a" : Str) = true ∧ PyData.strOk ("zz" : Str) = true ∧ PyData.strOk ("b" : Str) = true ∧ PyData.strOk ("c" : Str) = true := by decide +kernel
  have a1 : ∀ S : Sto, gAdd (.str nm) (.str "q") S = .ok (.str (nm ++ "q")) S := fun S => gAdd_str_ok (by omega)
  have a2 : ∀ S : Sto, gAdd (.str "x") (.str nm) S = .ok (.str ("x" ++ nm)) S := fun S => gAdd_str_ok (by omega)
  have hA : (S ++ [O.lst [.str "a", .str "zz", .str (nm ++ "q"), .str ("x" ++ nm)]])[S.length]? = some (.lst [.str "a", .str "zz", .str (nm ++ "q"), .str ("x" ++ nm)]) := by simp
  have RA := hR.app [O.lst [.str "a", .str "zz", .str (nm ++ "q"), .str ("x" ++ nm)]]
  have nl := hR.ne
  generalize hAA : S ++ [O.lst [.str "a", .str "zz", .str (nm ++ "q"), .str ("x" ++ nm)]] = A at *
  obtain ⟨t, B, e1, t0, t1, RB, K1⟩ := take_spec RA (m := 4) (by omega) (by decide)
  have hB := K1.at hA (by omega)
  obtain ⟨z, zi, zo, zl⟩ : ∃ z : Str, L2.atI [D.str "a", .str "zz", .str (nm ++ "q"), .str ("x" ++ nm)] t = some (.str z) ∧ PyData.strOk z = true ∧ z.length ≤ 9 := by
    have ll : ∀ a b : Str, (a ++ b).length = a.length + b.length := fun a b => by
      show (a.cps ++ b.cps).size = _
      rw [Array.size_append]; rfl
    have : t = 0 ∨ t = 1 ∨ t = 2 ∨ t = 3 := by omega
    rcases this with rfl | rfl | rfl | rfl
    · exact ⟨_, rfl, so.2.2.1, by omega⟩
    · exact ⟨_, rfl, so.2.2.2.1, by omega⟩
    · exact ⟨_, rfl, strOk_add hn so.1, by rw [ll]; omega⟩
    · exact ⟨_, rfl, strOk_add so.2.1 hn, by rw [ll]; omega⟩
  have sl := gSl_str (S := B) (z := z) (lo := none) (hi := some 8) (by omega)
  have zo := strOk_cut (lo := none) (hi := some 8) zo
  generalize cutS z none (some 8) = o1 at *
  have key : ∀ other (T : Sto), PyData.strOk other = true → RowAt T n → (bsR [some (taleD nm es), some (.ref n), some (.tup [beTh nm "register"]), some (.tup (es.map (Ev.d nm))), some (.str nm), some (.str other), none, none, none, none, none] T = bsR [some (taleD nm es), some (.ref n), some (.tup [beTh nm "register"]), some (.tup (es.map (Ev.d nm))), some (.str nm), some (.str other), none, none, none, none, none] T) := fun _ _ _ _ => rfl
  by_cases c : o1 = nm
  · subst c
    have hC : (B ++ [O.lst [.str "b", .str "c"]])[B.length]? = some (.lst [.str "b", .str "c"]) := by simp
    have RC := RB.app [O.lst [.str "b", .str "c"]]
    obtain ⟨lc, el⟩ := gIx_last (S := B ++ [O.lst [.str "b", .str "c"]]) h1.1 (by omega)
    have sl2 := gSl_str (S := B) (z := o1) (lo := none) (hi := some (-1)) (by omega)
    have so2 := strOk_cut (lo := none) (hi := some (-1)) zo
    have cl : (cutS o1 none (some (-1))).length ≤ o1.length := cutS_len
    generalize cutS o1 none (some (-1)) = o2 at *
    generalize hCC : B ++ [O.lst [.str "b", .str "c"]] = C at *
    have a3 : ∀ S : Sto, gAdd (.str o2) (.str "b") S = .ok (.str (o2 ++ "b")) S := fun S => gAdd_str_ok (by omega)
    have a4 : ∀ S : Sto, gAdd (.str o2) (.str "c") S = .ok (.str (o2 ++ "c")) S := fun S => gAdd_str_ok (by omega)
    have fin : ∀ other, PyData.strOk other = true → ∃ T k L S', bsR [some (taleD o1 es), some (.ref n), some (.tup [beTh o1 "register"]), some (.tup (es.map (Ev.d o1))), some (.str o1), some (.str other), none, none, none, none, none] C = .rt (.tup [.tup T, .ref k]) S' ∧ T.length = 2 ∧ S'[k]? = some (.lst L) := fun other ho => bsR_spec hn ho r hl RC
    unfold beTh taleD at fin
    unfold taleD
    by_cases cb : lc = "b"
    · subst cb
      obtain ⟨T, k, L, S', e, l, hk⟩ := fin (o2 ++ "c") (strOk_add so2 so.2.2.2.2.2)
      exact ⟨T, k, L, S', by simp [m_law_beside, bs_split, runB_eq, a1, a2, newL_ok, hAA, e1, hB, zi, sl, sl2, hCC, el, hC, a4, e], l, hk⟩
    · obtain ⟨T, k, L, S', e, l, hk⟩ := fin (o2 ++ "b") (strOk_add so2 so.2.2.2.2.1)
      exact ⟨T, k, L, S', by simp [m_law_beside, bs_split, runB_eq, a1, a2, newL_ok, hAA, e1, hB, zi, sl, sl2, hCC, el, hC, a3, cb, e], l, hk⟩
  · obtain ⟨T, k, L, S', e, l, hk⟩ := bsR_spec (other := o1) (x0 := some (taleD nm es)) (x4 := some (.str nm)) (x6 := none) (x7 := none) (x8 := none) (x9 := none) (x10 := none) hn zo r hl RB
    unfold beTh taleD at e
    unfold taleD
    exact ⟨T, k, L, S', by simp [m_law_beside, bs_split, runB_eq, a1, a2, newL_ok, hAA, e1, hB, zi, sl, c, e], l, hk⟩

/-! turned: what goes ahead -/
noncomputable def tuR (fM fA fT fB : Fn) : DS :=
  (dSeq (dIf (dAnd (dT (dBin gEq (dV 7) (dC (.int 0)))) (dT (dBin gNe (dV 5) (dLst dNilA)))) (dRet (dTup (dConsA (dV 2) (dConsA (dCall 5 fM (dConsA (dV 3) (dConsA (dV 4) (dConsA (dBin gMod (dBin gAdd (dBin gAdd (dV 11) (dC (.int 1))) (dCall 2 fT (dConsA (dV 1) (dConsA (dC (.int 5)) dNilA)))) (dC (.int 6))) (dConsA (dV 10) (dConsA (dV 8) dNilA)))))) dNilA)))) dSkip)
  (dSeq (dIf (dAnd (dT (dBin gEq (dV 7) (dC (.int 1)))) (dT (dBin gNe (dV 5) (dLst dNilA)))) (dRet (dTup (dConsA (dV 2) (dConsA (dCall 5 fM (dConsA (dV 3) (dConsA (dV 4) (dConsA (dV 11) (dConsA (dBin gIx (dBin gIx (dV 3) (dBin gIx (dV 5) (dCall 2 fT (dConsA (dV 1) (dConsA (dCB gLen (dConsA (dV 5) dNilA)) dNilA))))) (dC (.int 4))) (dConsA (dV 8) dNilA)))))) dNilA)))) dSkip)
  (dSeq (dIf (dT (dBin gEq (dV 7) (dC (.int 2)))) (dRet (dTup (dConsA (dV 2) (dConsA (dCall 5 fM (dConsA (dV 3) (dConsA (dV 4) (dConsA (dV 11) (dConsA (dC (.int 0)) (dConsA (dV 8) dNilA)))))) dNilA)))) dSkip)
  (dSeq (dIf (dAnd (dT (dBin gEq (dV 7) (dC (.int 3)))) (dT (dBin gNe (dV 5) (dLst dNilA)))) (dRet (dTup (dConsA (dV 2) (dConsA (dCall 3 fA (dConsA (dV 3) (dConsA (dBin gIx (dV 5) (dCall 2 fT (dConsA (dV 1) (dConsA (dCB gLen (dConsA (dV 5) dNilA)) dNilA)))) (dConsA (dBin gIx (dLst (dConsA (dC (.int 1)) (dConsA (dC (.str "none")) (dConsA (dC (.int 0)) dNilA)))) (dCall 2 fT (dConsA (dV 1) (dConsA (dC (.int 3)) dNilA)))) dNilA)))) dNilA)))) dSkip)
  (dSeq (dIf (dAnd (dT (dBin gEq (dV 7) (dC (.int 4)))) (dT (dBin gNe (dV 6) (dLst dNilA)))) (dRet (dTup (dConsA (dV 2) (dConsA (dCall 3 fA (dConsA (dV 3) (dConsA (dBin gIx (dV 6) (dCall 2 fT (dConsA (dV 1) (dConsA (dCB gLen (dConsA (dV 6) dNilA)) dNilA)))) (dConsA (dBin gIx (dLst (dConsA (dC (.str "ok")) (dConsA (dC (.str "none")) dNilA))) (dCall 2 fT (dConsA (dV 1) (dConsA (dC (.int 2)) dNilA)))) dNilA)))) dNilA)))) dSkip)
  (dSeq (dIf (dT (dBin gEq (dV 7) (dC (.int 5)))) (dRet (dCall 2 fB (dConsA (dV 0) (dConsA (dV 1) dNilA)))) dSkip)
  (dSeq (dIf (dT (dBin gEq (dV 7) (dC (.int 6)))) (dRet (dTup (dConsA (dTup (dConsA (dTup (dConsA (dV 4) (dConsA (dC (.str "cell")) dNilA))) dNilA)) (dConsA (dV 3) dNilA)))) dSkip)
  (dRet (dC .non)))))))))
noncomputable def tuG : DS := (dSet 10 (dBin gIx (dLc (Sum.inl 13) [13] (dRange2 (dConsA (dC (.int 1)) (dConsA (dC (.int 30)) dNilA))) (dT (dBin gNotIn (dV 13) (dV 9))) (dV 13)) (dC (.int 0))))
theorem tuG_run {env : RL.Env} {S : Sto} {items FR : List D} {f : Int} (r2 : rg2 [.int 1, .int 30] S = .ok ⟨items, []⟩ S) (lr : items.length ≤ lim) (l2 : lcL [] (cTarget (.inl 13)) (dT (dBin gNotIn (dV 13) (dV 9))) (dV 13) (wipeE env [13]) items S = .ok FR S) (hf : L2.atI FR 0 = some (.int f)) : tuG env S = .nx (env.set 10 (some (.int f))) (S ++ [.lst FR]) := by
  have h : (dRange2 (dConsA (dC (.int 1)) (dConsA (dC (.int 30)) dNilA))) env S = .ok ⟨items, []⟩ S := by
    rw [dRange2_eq]
    have : (dConsA (dC (.int 1)) (dConsA (dC (.int 30)) dNilA)) env S = .ok [.int 1, .int 30] S := rfl
    rw [this]
    exact r2
  have hR1 : (S ++ [O.lst FR])[S.length]? = some (.lst FR) := by simp
  unfold tuG
  generalize dRange2 (dConsA (dC (.int 1)) (dConsA (dC (.int 30)) dNilA)) = RG at h ⊢
  simp [dLc_eq, h, lr, l2, hR1, hf]
noncomputable def tuB (fB fT : Fn) (REST : DS) : DS := (dSeq (dAsg (dV 0) (sTup 2 (sCons (sName 2) (sCons (sName 3) sNil))))
  (dSeq (dSet 4 (dBin gIx (dBin gIx (dV 2) (dC (.int 0))) (dC (.int 0))))
  (dSeq (dSet 5 (dCall 2 fB (dConsA (dV 3) (dConsA (dC (.str "write")) dNilA))))
  (dSeq (dSet 6 (dCall 2 fB (dConsA (dV 3) (dConsA (dC (.str "read")) dNilA))))
  (dSeq (dSet 7 (dCall 2 fT (dConsA (dV 1) (dConsA (dC (.int 8)) dNilA))))
  (dSeq (dSet 8 (dBin gEq (dCall 2 fT (dConsA (dV 1) (dConsA (dC (.int 2)) dNilA))) (dC (.int 1))))
  (dSeq (dSet 9 (dLc (Sum.inl 12) [12] (dItA (dV 3)) (dT (dBin gEq (dBin gIx (dV 12) (dC (.int 0))) (dC (.str "begin")))) (dBin gIx (dV 12) (dC (.int 4)))))
  (dSeq tuG
  (dSeq (dSet 11 (dC (.int 5)))
  (dSeq (dIf (dT (dBin gNe (dV 5) (dLst dNilA))) (dSet 11 (dBin gIx (dBin gIx (dV 3) (dBin gIx (dV 5) (dC (.int 0)))) (dC (.int 1)))) dSkip)
  REST))))))))))
theorem tu_split : b_law_turned = tuB m_law_begins m_law_take (tuR m_law_more m_law_answered m_law_take m_law_beside) := rfl
def posV (wr : Bool) (es : List Ev) : List Nat := (List.range es.length).filter fun k => isV wr es[k]?
def posD (wr : Bool) (es : List Ev) : List D := (posV wr es).map fun k : Nat => D.int (k : Int)
theorem posV_w {es : List Ev} {p : Nat} (h : p ∈ posV true es) : ∃ hd w, es[p]? = some (.bw hd w) := by
  unfold posV at h
  rw [List.mem_filter] at h
  have h2 := h.2
  revert h2
  cases es[p]? with
  | none => intro h2; cases h2
  | some e => cases e with
    | bw hd w => intro _; exact ⟨hd, w, rfl⟩
    | br hd => intro h2; cases h2
    | en hd a => intro h2; cases h2
theorem posV_r {es : List Ev} {p : Nat} (h : p ∈ posV false es) : ∃ hd, es[p]? = some (.br hd) := by
  unfold posV at h
  rw [List.mem_filter] at h
  have h2 := h.2
  revert h2
  cases es[p]? with
  | none => intro h2; cases h2
  | some e => cases e with
    | bw hd w => intro h2; cases h2
    | br hd => intro _; exact ⟨hd, rfl⟩
    | en hd a => intro h2; cases h2
theorem posD_ne {wr : Bool} {es : List Ev} {n m : Nat} {S : Sto} (h : S[n]? = some (.lst (posD wr es))) (h2 : S[m]? = some (.lst [])) : gNe (.ref n) (.ref m) S = .ok (.bl (!decide (posD wr es = []))) S := gNe_empty (fun d hd => by
  obtain ⟨k, _, rfl⟩ := List.mem_map.mp hd; rfl) h h2
theorem pre_run {fB fT : Fn} {REST : DS} {th E : D} {evs : List D} {nm : Str} {n W Rd t t2 f : Int} {w r : Nat} {b : Bool} {rn : Nat} {S S1 S2 S3 S4 : Sto} {US FR items : List D} {wt : Int} {v : R D} (r2 : rg2 [.int 1, .int 30] (S4 ++ [O.lst US]) = .ok ⟨items, []⟩ (S4 ++ [O.lst US])) (lr : items.length ≤ lim) (hE : E = .tup evs) (hth : th = .tup [.tup [.str nm, .str "register"]])
    (e1 : fB [E, .str "write"] S = .ok (.ref w) S1) (e2 : fB [E, .str "read"] S1 = .ok (.ref r) S2) (e3 : fT [.ref rn, .int 8] S2 = .ok (.int t) S3) (e4 : fT [.ref rn, .int 2] S3 = .ok (.int t2) S4) (hb : decide (t2 = 1) = b)
    (lim0 : evs.length ≤ lim) (l1 : lcL [] (cTarget (.inl 12)) (dT (dBin gEq (dBin gIx (dV 12) (dC (.int 0))) (dC (.str "begin")))) (dBin gIx (dV 12) (dC (.int 4))) (wipeE [some (.tup [th, E]), some (.ref rn), some th, some E, some (.str nm), some (.ref w), some (.ref r), some (.int t), some (.bl b), none, none, none, none, none] [12]) evs S4 = .ok US S4)
    (l2 : lcL [] (cTarget (.inl 13)) (dT (dBin gNotIn (dV 13) (dV 9))) (dV 13) (wipeE [some (.tup [th, E]), some (.ref rn), some th, some E, some (.str nm), some (.ref w), some (.ref r), some (.int t), some (.bl b), some (.ref S4.length), none, none, none, none] [13]) items (S4 ++ [.lst US]) = .ok FR (S4 ++ [.lst US])) (hf : L2.atI FR 0 = some (.int f)) {ne : Bool}
    (hne : gNe (.ref w) (.ref (S4.length + 2)) (S4 ++ [.lst US, .lst FR, .lst []]) = .ok (.bl ne) (S4 ++ [.lst US, .lst FR, .lst []])) (hw : ne = false ∧ wt = 5 ∨ ne = true ∧ ∃ ws p ed, (S4 ++ [O.lst US, .lst FR, .lst []])[w]? = some (.lst ws) ∧ L2.atI ws 0 = some (.int p) ∧ L2.atI evs p = some ed ∧ ∀ S : Sto, gIx ed (.int 1) S = .ok (.int wt) S) :
    runB 14 (tuB fB fT REST) [.tup [th, E], .ref rn] S = (REST [some (.tup [th, E]), some (.ref rn), some th, some E, some (.str nm), some (.ref w), some (.ref r), some (.int t), some (.bl b), some (.ref S4.length), some (.int f), some (.int wt), none, none] (S4 ++ [.lst US, .lst FR, .lst []])).toR := by
  have G := tuG_run (env := [some (.tup [th, E]), some (.ref rn), some th, some E, some (.str nm), some (.ref w), some (.ref r), some (.int t), some (.bl b), some (.ref S4.length), none, none, none, none]) r2 lr l2 hf
  have aa : S4 ++ [O.lst US] ++ [O.lst FR] = S4 ++ [.lst US, .lst FR] := by simp
  rw [aa] at G
  subst hb
  subst hE
  rw [hth] at l1 G ⊢
  rcases hw with ⟨rfl, rfl⟩ | ⟨rfl, ws, p, ed, q1, q2, q3, q4⟩
  · generalize hT : S4 ++ [O.lst US, .lst FR, .lst []] = T at *
    simp [tuB, runB_eq, e1, e2, e3, e4, dLc_eq, lim0, l1, G, hne, hT]
  · generalize hT : S4 ++ [O.lst US, .lst FR, .lst []] = T at *
    simp [tuB, runB_eq, e1, e2, e3, e4, dLc_eq, lim0, l1, G, hne, hT, q1, q2, q3, q4]
section
variable {fM fA fT fB : Fn} {th E tale : D} {evs : List D} {nm : Str} {f wt : Int} {w r rn : Nat} {b : Bool} {T : Sto} {x9 x12 x13 : Option D}
theorem tk_empty {t : Int} (ht : t = 0 ∨ t = 1 ∨ t = 3) (hne : gNe (.ref w) (.ref T.length) (T ++ [.lst []]) = .ok (.bl false) (T ++ [.lst []])) : tuR fM fA fT fB [some tale, some (.ref rn), some th, some E, some (.str nm), some (.ref w), some (.ref r), some (.int t), some (.bl b), x9, some (.int f), some (.int wt), x12, x13] T = .rt .non (T ++ [.lst []]) := by
  rcases ht with rfl | rfl | rfl <;> simp [tuR, hne]
theorem tk_empty4 (hne : gNe (.ref r) (.ref T.length) (T ++ [.lst []]) = .ok (.bl false) (T ++ [.lst []])) : tuR fM fA fT fB [some tale, some (.ref rn), some th, some E, some (.str nm), some (.ref w), some (.ref r), some (.int 4), some (.bl b), x9, some (.int f), some (.int wt), x12, x13] T = .rt .non (T ++ [.lst []]) := by
  simp [tuR, hne]
theorem tk_7 : tuR fM fA fT fB [some tale, some (.ref rn), some th, some E, some (.str nm), some (.ref w), some (.ref r), some (.int 7), some (.bl b), x9, some (.int f), some (.int wt), x12, x13] T = .rt .non T := by
  simp [tuR]
theorem tk_6 : tuR fM fA fT fB [some tale, some (.ref rn), some th, some E, some (.str nm), some (.ref w), some (.ref r), some (.int 6), some (.bl b), x9, some (.int f), some (.int wt), x12, x13] T = .rt (.tup [.tup [.tup [.str nm, .str "cell"]], E]) T := by
  simp [tuR, newT_ok]
theorem tk_5 {v : D} {T' : Sto} (h : fB [tale, .ref rn] T = .ok v T') : tuR fM fA fT fB [some tale, some (.ref rn), some th, some E, some (.str nm), some (.ref w), some (.ref r), some (.int 5), some (.bl b), x9, some (.int f), some (.int wt), x12, x13] T = .rt v T' := by
  simp [tuR, h]
theorem tk_2 {v : D} {T' : Sto} (h : fM [E, .str nm, .int wt, .int 0, .bl b] T = .ok v T') : tuR fM fA fT fB [some tale, some (.ref rn), some th, some E, some (.str nm), some (.ref w), some (.ref r), some (.int 2), some (.bl b), x9, some (.int f), some (.int wt), x12, x13] T = .rt (.tup [th, v]) T' := by
  simp [tuR, h, newT_ok]
theorem tk_0 {v : D} {A T' : Sto} {u h : Int} (hne : gNe (.ref w) (.ref T.length) (T ++ [.lst []]) = .ok (.bl true) (T ++ [.lst []])) (e1 : fT [.ref rn, .int 5] (T ++ [.lst []]) = .ok (.int u) A) (hm : gMod (.int (wt + 1 + u)) (.int 6) A = .ok (.int h) A) (e2 : fM [E, .str nm, .int h, .int f, .bl b] A = .ok v T') :
    tuR fM fA fT fB [some tale, some (.ref rn), some th, some E, some (.str nm), some (.ref w), some (.ref r), some (.int 0), some (.bl b), x9, some (.int f), some (.int wt), x12, x13] T = .rt (.tup [th, v]) T' := by
  simp [tuR, hne, e1, hm, e2, newT_ok]
theorem tk_1 {v ed : D} {A T' : Sto} {u p wo L : Int} {ws : List D} (hE : E = .tup evs) (hne : gNe (.ref w) (.ref T.length) (T ++ [.lst []]) = .ok (.bl true) (T ++ [.lst []])) (gl : gLen [.ref w] (T ++ [.lst []]) = .ok (.int L) (T ++ [.lst []])) (e1 : fT [.ref rn, .int L] (T ++ [.lst []]) = .ok (.int u) A) (hw : A[w]? = some (.lst ws)) (i1 : L2.atI ws u = some (.int p)) (i2 : L2.atI evs p = some ed) (i3 : gIx ed (.int 4) A = .ok (.int wo) A) (e2 : fM [E, .str nm, .int wt, .int wo, .bl b] A = .ok v T') :
    tuR fM fA fT fB [some tale, some (.ref rn), some th, some E, some (.str nm), some (.ref w), some (.ref r), some (.int 1), some (.bl b), x9, some (.int f), some (.int wt), x12, x13] T = .rt (.tup [th, v]) T' := by
  subst hE
  simp [tuR, hne, gl, -gLen_ref, e1, hw, i1, i2, i3, e2, newT_ok]
theorem tk_3 {v a : D} {A B T' : Sto} {u p L z : Int} {ws : List D} (hne : gNe (.ref w) (.ref T.length) (T ++ [.lst []]) = .ok (.bl true) (T ++ [.lst []])) (gl : gLen [.ref w] (T ++ [.lst []]) = .ok (.int L) (T ++ [.lst []])) (e1 : fT [.ref rn, .int L] (T ++ [.lst []]) = .ok (.int u) A) (hw : A[w]? = some (.lst ws)) (i1 : L2.atI ws u = some (.int p))
    (e2 : fT [.ref rn, .int 3] (A ++ [.lst [.int 1, .str "none", .int 0]]) = .ok (.int z) B) (hb : B[A.length]? = some (.lst [.int 1, .str "none", .int 0])) (i2 : L2.atI [D.int 1, .str "none", .int 0] z = some a) (e3 : fA [E, .int p, a] B = .ok v T') :
    tuR fM fA fT fB [some tale, some (.ref rn), some th, some E, some (.str nm), some (.ref w), some (.ref r), some (.int 3), some (.bl b), x9, some (.int f), some (.int wt), x12, x13] T = .rt (.tup [th, v]) T' := by
  simp [tuR, hne, gl, -gLen_ref, e1, hw, i1, newL_ok, e2, hb, i2, e3, newT_ok]
theorem tk_4 {v a : D} {A B T' : Sto} {u p L z : Int} {ws : List D} (hne : gNe (.ref r) (.ref T.length) (T ++ [.lst []]) = .ok (.bl true) (T ++ [.lst []])) (gl : gLen [.ref r] (T ++ [.lst []]) = .ok (.int L) (T ++ [.lst []])) (e1 : fT [.ref rn, .int L] (T ++ [.lst []]) = .ok (.int u) A) (hw : A[r]? = some (.lst ws)) (i1 : L2.atI ws u = some (.int p))
    (e2 : fT [.ref rn, .int 2] (A ++ [.lst [.str "ok", .str "none"]]) = .ok (.int z) B) (hb : B[A.length]? = some (.lst [.str "ok", .str "none"])) (i2 : L2.atI [D.str "ok", .str "none"] z = some a) (e3 : fA [E, .int p, a] B = .ok v T') :
    tuR fM fA fT fB [some tale, some (.ref rn), some th, some E, some (.str nm), some (.ref w), some (.ref r), some (.int 4), some (.bl b), x9, some (.int f), some (.int wt), x12, x13] T = .rt (.tup [th, v]) T' := by
  simp [tuR, hne, gl, -gLen_ref, e1, hw, i1, newL_ok, e2, hb, i2, e3, newT_ok]
end

theorem begins_w {nm : Str} {es : List Ev} {S : RL.Sto} (hl : es.length ≤ 900) : m_law_begins [.tup (es.map (Ev.d nm)), .str "write"] S = .ok (.ref S.length) (S ++ [.lst (posD true es)]) := begins_spec (wr := true) hl
theorem begins_r {nm : Str} {es : List Ev} {S : RL.Sto} (hl : es.length ≤ 900) : m_law_begins [.tup (es.map (Ev.d nm)), .str "read"] S = .ok (.ref S.length) (S ++ [.lst (posD false es)]) := begins_spec (wr := false) hl
theorem turned_pre {wr : Int} {nm : Str} {es : List Ev} {fs : List Dd} {n : Nat} {S : Sto} (r : Run wr es fs) (hl : es.length ≤ 28) (hR : RowAt S n) :
    ∃ (t : Int) (b : Bool) (f : Nat) (wt : Int) (T : Sto) (W Rd U : Nat), 0 ≤ t ∧ t < 8 ∧ (1 + (f : Int)) ∉ usI es ∧ f < 29 ∧ W ≠ n ∧ Rd ≠ n ∧ RowAt T n ∧ T[W]? = some (.lst (posD true es)) ∧ T[Rd]? = some (.lst (posD false es)) ∧ (posD true es = [] ∨ wt = wr) ∧
      m_law_turned [taleD nm es, .ref n] S = (tuR m_law_more m_law_answered m_law_take m_law_beside [some (taleD nm es), some (.ref n), some (.tup [.tup [.str nm, .str "register"]]), some (.tup (es.map (Ev.d nm))), some (.str nm), some (.ref W), some (.ref Rd), some (.int t), some (.bl b), some (.ref U), some (.int (1 + (f : Int))), some (.int wt), none, none] T).toR := by
  have nl := hR.ne
  have e1 := begins_w (nm := nm) (es := es) (S := S) (by omega)
  have e2 := begins_r (nm := nm) (es := es) (S := S ++ [.lst (posD true es)]) (by omega)
  have hW : (S ++ [O.lst (posD true es)] ++ [O.lst (posD false es)])[S.length]? = some (.lst (posD true es)) := by simp
  have hRd : (S ++ [O.lst (posD true es)] ++ [O.lst (posD false es)])[S.length + 1]? = some (.lst (posD false es)) := by
    rw [List.getElem?_append_right (by simp)]; simp
  have RA := (hR.app [O.lst (posD true es)]).app [O.lst (posD false es)]
  have lA : (S ++ [O.lst (posD true es)]).length = S.length + 1 := by simp
  rw [lA] at e2
  obtain ⟨S2, hS2⟩ : ∃ S2, S2 = S ++ [O.lst (posD true es)] ++ [O.lst (posD false es)] := ⟨_, rfl⟩
  rw [← hS2] at e2 hW hRd RA
  obtain ⟨t, S3, e3, t0, t1, R3, K3⟩ := take_spec RA (m := 8) (by omega) (by decide)
  obtain ⟨t2, S4, e4, u0, u1, R4, K4⟩ := take_spec R3 (m := 2) (by omega) (by decide)
  have K := K3.trans K4
  have hW4 := K.at hW (by omega)
  have hR4 := K.at hRd (by omega)
  obtain ⟨f, fr, hf, f1, f2⟩ := frL_ne (es := es) (by omega)
  have hT : ∀ {k : Nat} {o : O}, S4[k]? = some o → (S4 ++ [O.lst (usD es), .lst ((frL es).map fun k : Nat => D.int (1 + (k : Int))), .lst []])[k]? = some o := fun h => app_at h
  have hne := posD_ne (wr := true) (es := es) (n := S.length) (m := S4.length + 2) (S := S4 ++ [O.lst (usD es), .lst ((frL es).map fun k : Nat => D.int (1 + (k : Int))), .lst []]) (hT hW4) (by rw [List.getElem?_append_right (by omega)]; simp)
  have hn0 : ∀ k : Nat, k < 29 → True := fun _ _ => trivial
  obtain ⟨wt, hw1, hw2⟩ : ∃ wt : Int, ((!decide (posD true es = [])) = false ∧ wt = 5 ∨ (!decide (posD true es = [])) = true ∧ ∃ ws p ed, (S4 ++ [O.lst (usD es), .lst ((frL es).map fun k : Nat => D.int (1 + (k : Int))), .lst []])[S.length]? = some (.lst ws) ∧ L2.atI ws 0 = some (.int p) ∧ L2.atI (es.map (Ev.d nm)) p = some ed ∧ ∀ S : Sto, gIx ed (.int 1) S = .ok (.int wt) S) ∧ (posD true es = [] ∨ wt = wr) := by
    cases q : posV true es with
    | nil => exact ⟨5, .inl ⟨by unfold posD; rw [q]; rfl, rfl⟩, .inl (by unfold posD; rw [q]; rfl)⟩
    | cons p rest =>
      obtain ⟨hd, w, hp⟩ := posV_w (es := es) (p := p) (by rw [q]; exact List.mem_cons_self)
      have hwr : hd = wr := by
        obtain ⟨d, hd1, d1, d2, d3⟩ := r.good.has p hd w hp
        rw [← d3]; exact ((r.good.beg d hd1).2.1 w d2).2.1
      have pd : posD true es = .int (p : Int) :: rest.map fun k : Nat => D.int (k : Int) := by unfold posD; rw [q]; rfl
      refine ⟨hd, .inr ⟨by rw [pd]; rfl, _, (p : Int), (Ev.bw hd w).d nm, hT hW4, by rw [pd]; simp, ev_at hp, fun S => hand_at⟩, .inr hwr⟩
  have P := pre_run (fB := m_law_begins) (fT := m_law_take) (REST := tuR m_law_more m_law_answered m_law_take m_law_beside) (nm := nm) (th := .tup [.tup [.str nm, .str "register"]]) (E := .tup (es.map (Ev.d nm))) (evs := es.map (Ev.d nm)) (rn := n) (S := S) (n := 0) (W := 0) (Rd := 0) (v := .err) (b := decide (t2 = 1)) (items := rangeD 1 29) (f := 1 + (f : Int)) (US := usD es) (FR := (frL es).map fun k : Nat => D.int (1 + (k : Int)))
    (rg2_nat (a := 1) (b := 30) (by omega) (by omega)) (by rw [rangeD_len]; unfold lim; omega) rfl rfl e1 e2 e3 e4 rfl (by rw [List.length_map]; unfold lim; omega) (used_lc rfl) (fresh_lc (n := S4.length) rfl rfl (by simp)) (by rw [hf]; simp) hne hw1
  refine ⟨t, decide (t2 = 1), f, wt, _, S.length, S.length + 1, S4.length, t0, t1, f2, f1, by omega, by omega, R4.app _, hT hW4, hT hR4, hw2, ?_⟩
  have : m_law_turned = runB 14 b_law_turned := rfl
  rw [this, tu_split]
  exact P
def TurnOk (v : D) (S' : Sto) : Prop := v = .non ∨ ∃ T y L, v = .tup [.tup T, y] ∧ (y = .tup L ∨ ∃ k, y = .ref k ∧ S'[k]? = some (.lst L)) ∧ NP (.tup [.tup T, .tup L])
theorem ev_4 {nm : Str} {h w : Int} {S : Sto} : gIx ((Ev.bw h w).d nm) (.int 4) S = .ok (.int w) S := by simp [Ev.d]
theorem turned_spec {wr : Int} {nm : Str} {es : List Ev} {fs : List Dd} {n : Nat} {S : Sto} (hn : PyData.strOk nm = true) (h1 : 1 ≤ nm.length ∧ nm.length ≤ 8) (hwr : 0 ≤ wr ∧ wr < 6) (r : Run wr es fs) (hl : es.length ≤ 28) (hR : RowAt S n) :
    ∃ v S', m_law_turned [taleD nm es, .ref n] S = .ok v S' ∧ TurnOk v S' := by
  obtain ⟨t, b, f, wt, T, W, Rd, U, t0, t1, f2, f1, Wn, Rn, RT, hW, hRd, hwt, e⟩ := turned_pre (nm := nm) r hl hR
  rw [e]
  have g := r.good
  have fl := run_len r
  have hWT : (T ++ [O.lst []])[W]? = some (.lst (posD true es)) := app_at hW
  have hRT : (T ++ [O.lst []])[Rd]? = some (.lst (posD false es)) := app_at hRd
  have neW := posD_ne (wr := true) (es := es) (n := W) (m := T.length) hWT (by simp)
  have neR := posD_ne (wr := false) (es := es) (n := Rd) (m := T.length) hRT (by simp)
  have RN := RT.app [O.lst []]
  have glW : gLen [.ref W] (T ++ [.lst []]) = .ok (.int ((posV true es).length : Int)) (T ++ [.lst []]) := by simp [hWT, posD]
  have glR : gLen [.ref Rd] (T ++ [.lst []]) = .ok (.int ((posV false es).length : Int)) (T ++ [.lst []]) := by simp [hRT, posD]
  have vl : ∀ q, (posV q es).length ≤ 28 := fun q => by unfold posV; exact Nat.le_trans (List.length_filter_le ..) (by simp; omega)
  have at_pos : ∀ q u, 0 ≤ u → u < ((posV q es).length : Int) → ∃ p : Nat, L2.atI (posD q es) u = some (.int (p : Int)) ∧ p ∈ posV q es := fun q u q0 q1 => by
    obtain ⟨d, h2, h3⟩ := atI_mem (xs := posD q es) q0 (by unfold posD; rw [List.length_map]; exact q1)
    unfold posD at h3
    obtain ⟨p, h4, rfl⟩ := List.mem_map.mp h3
    exact ⟨p, h2, h4⟩
  have pow : ∀ q, ((posV q es).length : Int) < 2 ^ 200 := fun q => Int.lt_trans (show ((posV q es).length : Int) < 100 by have := vl q; omega) (by decide)
  have nonempty : ∀ {q}, posD q es ≠ [] → 0 < ((posV q es).length : Int) := fun {q} h => by
    unfold posD at h
    have : posV q es ≠ [] := fun z => h (by rw [z]; rfl)
    have := List.length_pos_iff.mpr this
    omega
  have moreok : ∀ {A S' : Sto} {hand w : Int} {k : Nat} {Es es' fs'}, S'[k]? = some (.lst (List.map (Xv.d nm) Es)) → Run wr es' fs' → XRun Es (fs'.map Dd.x ++ [moreD es' hand w b]) → Es.length ≤ es.length + 3 → es'.length ≤ es.length + 1 → (w = 0 ∨ ∃ d ∈ fs', d.w = some w) → TurnOk (.tup [.tup [.tup [.str nm, .str "register"]], .ref k]) S' := fun hk r' X l1 l2 hw =>
    .inr ⟨_, _, _, rfl, .inr ⟨_, rfl, hk⟩, np_worth r' (by omega) X (by omega) hw⟩
  have tt : t = 0 ∨ t = 1 ∨ t = 2 ∨ t = 3 ∨ t = 4 ∨ t = 5 ∨ t = 6 ∨ t = 7 := by omega
  rcases tt with rfl | rfl | rfl | rfl | rfl | rfl | rfl | rfl
  · by_cases c : posD true es = []
    · rw [decide_eq_true c] at neW
      rw [tk_empty (.inl rfl) neW]
      exact ⟨_, _, rfl, .inl rfl⟩
    · rw [decide_eq_false c] at neW
      obtain ⟨u, A, e1, u0, u1, RA, KA⟩ := take_spec RN (m := 5) (by omega) (by decide)
      have hm := gMod_int (i := wt + 1 + u) (j := 6) (S := A) (by omega)
      obtain ⟨k, S', Es, es', fs', q1, q2, q3, q4, q5, q6, q7, q8⟩ := more_spec (hand := (wt + 1 + u) % 6) (w := 1 + (f : Int)) (ended := b) (S := A) hn r (by omega) (.inl rfl)
      rw [tk_0 neW e1 hm q1]
      have wtr : wt = wr := hwt.resolve_left c
      obtain ⟨p, rest, hp⟩ : ∃ p rest, posV true es = p :: rest := by
        cases q : posV true es with
        | nil => exact absurd (by unfold posD; rw [q]; rfl) c
        | cons p rest => exact ⟨p, rest, rfl⟩
      obtain ⟨hd, w, hp2⟩ := posV_w (es := es) (p := p) (by rw [hp]; exact List.mem_cons_self)
      obtain ⟨d, d0, d1, d2, d3⟩ := g.has p hd w hp2
      obtain ⟨d', d4, d5, d6⟩ := hw_mem q7 d0
      have dh : d.h = wr := ((g.beg d d0).2.1 w d2).2.1
      refine ⟨_, _, rfl, .inr ⟨_, _, _, rfl, .inr ⟨_, rfl, q3⟩, np_hands q4 (by omega) q5 (by omega) (fun z => ?_) d4 (by rw [d6, d2]; simp) (by rw [d5, dh]; omega)⟩⟩
      rcases z with z | ⟨y, hy, hyw⟩
      · omega
      · obtain ⟨y', h5, h6, h7⟩ := hw_mem (fs := fs') (fs' := fs) q7.symm hy
        exact f2 (us_mem r h5 (by rw [h7]; exact hyw))
  · by_cases c : posD true es = []
    · rw [decide_eq_true c] at neW
      rw [tk_empty (.inr (.inl rfl)) neW]
      exact ⟨_, _, rfl, .inl rfl⟩
    · rw [decide_eq_false c] at neW
      obtain ⟨u, A, e1, u0, u1, RA, KA⟩ := take_spec RN (m := ((posV true es).length : Int)) (nonempty c) (pow _)
      have hA := KA.at hWT Wn
      obtain ⟨p, i1, pm⟩ := at_pos true u u0 u1
      obtain ⟨hd, w, hp2⟩ := posV_w pm
      obtain ⟨d, d0, d1, d2, d3⟩ := g.has p hd w hp2
      obtain ⟨k, S', Es, es', fs', q1, q2, q3, q4, q5, q6, q7, q8⟩ := more_spec (hand := wt) (w := w) (ended := b) (S := A) hn r (by omega) (.inl rfl)
      rw [tk_1 rfl neW glW e1 hA i1 (ev_at hp2) ev_4 q1]
      obtain ⟨d', d4, d5, d6⟩ := hw_mem q7 d0
      exact ⟨_, _, rfl, moreok (A := A) q3 q4 q5 q6 q8 (.inr ⟨d', d4, by rw [d6, d2]⟩)⟩
  · obtain ⟨k, S', Es, es', fs', q1, q2, q3, q4, q5, q6, q7, q8⟩ := more_spec (hand := wt) (w := 0) (ended := b) (S := T) hn r (by omega) (.inl rfl)
    rw [tk_2 q1]
    exact ⟨_, _, rfl, moreok (A := T) q3 q4 q5 q6 q8 (.inl rfl)⟩
  · by_cases c : posD true es = []
    · rw [decide_eq_true c] at neW
      rw [tk_empty (.inr (.inr rfl)) neW]
      exact ⟨_, _, rfl, .inl rfl⟩
    · rw [decide_eq_false c] at neW
      obtain ⟨u, A, e1, u0, u1, RA, KA⟩ := take_spec RN (m := ((posV true es).length : Int)) (nonempty c) (pow _)
      have hA := KA.at hWT Wn
      obtain ⟨p, i1, pm⟩ := at_pos true u u0 u1
      obtain ⟨hd, w, hp2⟩ := posV_w pm
      obtain ⟨d, d0, d1, d2, d3⟩ := g.has p hd w hp2
      have lA := RA.ne
      obtain ⟨z, B, e2, z0, z1, RB, KB⟩ := take_spec (RA.app [O.lst [.int 1, .str "none", .int 0]]) (m := 3) (by omega) (by decide)
      have hB := KB.at (k := A.length) (o := .lst [.int 1, .str "none", .int 0]) (by simp) (by omega)
      obtain ⟨i, hi⟩ := List.mem_iff_getElem?.mp d0
      obtain ⟨a, i2, ha⟩ : ∃ a, L2.atI [D.int 1, .str "none", .int 0] z = some a ∧ (a = .str "none" ∨ ∃ i, a = .int i) := by
        have : z = 0 ∨ z = 1 ∨ z = 2 := by omega
        rcases this with rfl | rfl | rfl
        · exact ⟨_, rfl, .inr ⟨_, rfl⟩⟩
        · exact ⟨_, rfl, .inl rfl⟩
        · exact ⟨_, rfl, .inr ⟨_, rfl⟩⟩
      obtain ⟨Es, e, q1, q2, q3⟩ := answered_spec (nm := nm) (a := a) (S := B) r (by omega) hi
      rw [d1] at q1
      rw [tk_3 neW glW e1 hA i1 e2 hB i2 q1]
      refine ⟨_, _, rfl, .inr ⟨_, _, _, rfl, .inr ⟨_, rfl, by simp⟩, np_set r (by omega) hi q2 (by omega) (.answer w a e ?_ ?_ rfl ha)⟩⟩
      · show (Dd.x d).v = "write"
        unfold Dd.x; rw [d2]; rfl
      · show (Dd.x d).w = .int w
        unfold Dd.x; rw [d2]; rfl
  · by_cases c : posD false es = []
    · rw [decide_eq_true c] at neR
      rw [tk_empty4 neR]
      exact ⟨_, _, rfl, .inl rfl⟩
    · rw [decide_eq_false c] at neR
      obtain ⟨u, A, e1, u0, u1, RA, KA⟩ := take_spec RN (m := ((posV false es).length : Int)) (nonempty c) (pow _)
      have hA := KA.at hRT Rn
      obtain ⟨p, i1, pm⟩ := at_pos false u u0 u1
      obtain ⟨hd, hp2⟩ := posV_r pm
      obtain ⟨d, d0, d1, d2, d3⟩ := r.hasr p hd hp2
      have lA := RA.ne
      obtain ⟨z, B, e2, z0, z1, RB, KB⟩ := take_spec (RA.app [O.lst [.str "ok", .str "none"]]) (m := 2) (by omega) (by decide)
      have hB := KB.at (k := A.length) (o := .lst [.str "ok", .str "none"]) (by simp) (by omega)
      obtain ⟨i, hi⟩ := List.mem_iff_getElem?.mp d0
      obtain ⟨a, i2⟩ : ∃ a : Str, L2.atI [D.str "ok", .str "none"] z = some (.str a) := by
        have : z = 0 ∨ z = 1 := by omega
        rcases this with rfl | rfl
        · exact ⟨_, rfl⟩
        · exact ⟨_, rfl⟩
      obtain ⟨Es, e, q1, q2, q3⟩ := answered_spec (nm := nm) (a := .str a) (S := B) r (by omega) hi
      rw [d1] at q1
      rw [tk_4 neR glR e1 hA i1 e2 hB i2 q1]
      refine ⟨_, _, rfl, .inr ⟨_, _, _, rfl, .inr ⟨_, rfl, by simp⟩, np_set r (by omega) hi q2 (by omega) (.text a e ?_ rfl)⟩⟩
      show (Dd.x d).v = "read"
      unfold Dd.x; rw [d2]; rfl
  · obtain ⟨Th, k, L, S', q1, q2, q3⟩ := beside_spec (nm := nm) hn h1 r (by omega) RT
    rw [tk_5 q1]
    exact ⟨_, _, rfl, .inr ⟨Th, _, L, rfl, .inr ⟨_, rfl, q3⟩, np_many (.inr q2)⟩⟩
  · rw [tk_6]
    exact ⟨_, _, rfl, .inr ⟨_, _, _, rfl, .inl rfl, np_kind⟩⟩
  · rw [tk_7]
    exact ⟨_, _, rfl, .inl rfl⟩

/-! the tale of k22: its script is a list -/
theorem cell_at_list {S : Sto} {k : Nat} {c : D} {L : List D} (h : S[k]? = some (.lst (c :: L))) : m_law_cell_at [.ref k, .int 0] S = .ok c S := by
  have : (0 : Int) < (L.length : Int) + 1 := by omega
  simp [m_law_cell_at, b_law_cell_at, runB_eq, h, this]
theorem cell_at1 {ns : List Int} {S : Sto} : ∃ i, m_law_cell_at [.scr (ns.map D.int), .int 1] S = .ok (.int i) S := by
  match ns with
  | [] => exact ⟨0, by simp [m_law_cell_at, b_law_cell_at, runB_eq]⟩
  | [a] => exact ⟨0, by simp [m_law_cell_at, b_law_cell_at, runB_eq]⟩
  | a :: b :: r => exact ⟨b, by
      have : (1 : Int) < (r.length : Int) + 1 + 1 := by omega
      simp [m_law_cell_at, b_law_cell_at, runB_eq, this]⟩
theorem tale_run {k n m : Nat} {c0 M : Int} {nm : Str} {S S1 S2 S' : Sto} {L C : List D} {es : List Ev} (hM : M = 24) (e0 : m_law_cell_at [.ref k, .int 0] S = .ok (.int c0) S) (e1 : m_law_stream [.int (c0 / 2), .int (c0 % 2)] S = .ok (.ref n) S1) (e2 : m_law_name [.ref n] S1 = .ok (.str nm) S2) (hk : S2[k]? = some (.lst L)) (hC : RL.cutD L (some 1) (some (1 + M)) = C)
    (e3 : m_law_events [.ref S2.length, .int (c0 % 2), .ref n, .str nm] (S2 ++ [.lst C]) = .ok (.ref m) S') (f : S'[m]? = some (.lst (es.map (Ev.d nm)))) : m_law_tale [.ref k, .int M] S = .ok (taleD nm es) S' := by
  have g1 := fun S => gMod_int (S := S) (i := c0) (show (0:Int) < 2 by omega)
  have g2 := fun S => gDiv_int (S := S) (i := c0) (show (0:Int) < 2 by omega) (by decide)
  unfold taleD
  generalize c0 % 2 = w0 at *
  generalize c0 / 2 = w1 at *
  simp [m_law_tale, b_law_tale, runB_eq, e0, g1, g2, e1, e2, hk, hC, e3, gTuple_lst f, newT_ok]
theorem tale22 {L : List D} {c0 : Int} {k : Nat} {S : Sto} (hk : S[k]? = some (.lst (.int c0 :: L))) (hL : ∀ d ∈ L, isInt d) : ∃ (wr : Int) (es : List Ev) (fs : List Dd) (nm : Str) (S' : RL.Sto), m_law_tale [.ref k, .int 24] S = .ok (taleD nm es) S' ∧ Run wr es fs ∧ es.length ≤ 24 ∧ (0 ≤ wr ∧ wr < 6) ∧ (1 ≤ nm.length ∧ nm.length ≤ 8) ∧ PyData.strOk nm = true := by
  have lk := lt_at hk
  obtain ⟨S1, e1, R1, K1⟩ := stream_spec (S := S) (c := c0 / 2) (w := c0 % 2)
  obtain ⟨nm, S2, e2, hnm, R2, K2⟩ := name_spec2 R1
  have hk2 := K2.at (K1.at hk (by omega)) (by omega)
  have hLm : ∀ d ∈ RL.cutD (.int c0 :: L) (some 1) (some (1 + 24)), isInt d := by
    intro d hd
    rcases List.mem_cons.mp (cutD_mem hd) with rfl | h
    · exact ⟨c0, rfl⟩
    · exact hL d h
  have hCl : (RL.cutD (.int c0 :: L) (some 1) (some (1 + 24))).length ≤ 24 := by
    unfold RL.cutD HT.sIx
    simp only []
    rw [List.length_take, if_neg (by omega), if_neg (by omega)]
    have a1 : Int.toNat 1 = 1 := rfl
    have a2 : Int.toNat (1 + 24) = 25 := rfl
    rw [a1, a2]
    simp only [List.length_cons]
    omega
  generalize hC : RL.cutD (.int c0 :: L) (some 1) (some (1 + 24)) = C at *
  have lS2 := lt_at hk2
  obtain ⟨wr, es, fs, S', m, e3, r, l1, f, w0, w1, l2⟩ := events_spec2 (S := S2 ++ [.lst C]) (n := S.length) (c := S2.length) (cells := C) (w0 := c0 % 2) (nm := nm) (R2.app _) (by simp) (by have := R2.ne; omega) hLm (by omega)
  exact ⟨wr, es, fs, nm, S', tale_run rfl (cell_at_list hk) e1 e2 hk2 hC e3 f, r, by omega, ⟨w0, w1⟩, ⟨hnm.1, hnm.2.1⟩, strOk_iff.mpr hnm.2.2⟩
/-! the law -/
theorem asked_spec {wr : Int} {nm : Str} {es : List Ev} {fs : List Dd} (r : Run wr es fs) (hl : es.length ≤ 24) {w : Int} (hw : w = 0 ∨ w = 1 ∨ w = 2) (S : Sto) : ∃ d S', m_law_asked [taleD nm es, .int w] S = .ok d S' ∧ Gr S S' := by
  rcases hw with rfl | rfl | rfl
  · obtain ⟨S', e, g⟩ := isreg_spec (nm := nm) (S := S) r (by omega)
    exact ⟨_, S', by simp [m_law_asked, b_law_asked, runB_eq, e]; rfl, g⟩
  · obtain ⟨S', e, g⟩ := issafe_spec (nm := nm) (S := S) r (by omega)
    exact ⟨_, S', by simp [m_law_asked, b_law_asked, runB_eq, e]; rfl, g⟩
  · obtain ⟨S', e, g⟩ := turn_spec (nm := nm) (S := S) r (by omega)
    exact ⟨_, S', by simp [m_law_asked, b_law_asked, runB_eq, e]; rfl, g⟩
theorem turn22 {x0 t x2 v d : D} {w : Int} {S S1 S2 S3 : Sto} {x4 : Option D} (e1 : m_law_asked [t, .int w] S = .ok d S1) (e2 : m_law_refused [.tup [.tup [], .tup []], .int w] S1 = .ok (.bl true) S2) (h : (v = .non ∧ S3 = S2) ∨ ∃ T y L, v = .tup [.tup T, y] ∧ gTuple [y] S2 = .ok (.tup L) S2 ∧ m_law_refused [.tup [.tup T, .tup L], .int w] S2 = .ok (.bl true) S3) :
    l_law_0 [some x0, some t, some x2, some v, some (.int w)] S = .nx [some x0, some t, some x2, some v, some (.int w)] S3 := by
  rcases h with ⟨rfl, rfl⟩ | ⟨T, y, L, rfl, h1, h2⟩
  · simp [l_law_0, e1, newT_ok, e2]
  · simp [l_law_0, e1, newT_ok, e2, h1, h2]
theorem run22 {x0 v : D} {t : D} {L : List D} {c0 c1 : Int} {n : Nat} {S1 S2 S3 S4 : Sto} {x4 : Option D} (e0 : ∀ S, m_law_cell_at [x0, .int 0] S = .ok (.int c0) S) (sl : ∀ S, gSl x0 (some 2) none S = .ok (.ref S.length) (S ++ [.lst L])) (ad : gAdd (.ref 0) (.ref 1) [.lst [.int c0], .lst L] = .ok (.ref 2) S1) (e1 : m_law_tale [.ref 2, .int 24] S1 = .ok t S2) (e2 : ∀ S, m_law_cell_at [x0, .int 1] S = .ok (.int c1) S)
    (e3 : m_law_stream [.int (c1 / 2), .int (c1 % 2)] S2 = .ok (.ref n) S3) (e4 : m_law_turned [t, .ref n] S3 = .ok v S4) (l1 : ∃ x S5, forL [] (sName 4) l_law_0 [.int 0, .int 1, .int 2] [some x0, some t, some (.ref n), some v, none] S4 = .nx [some x0, some t, some (.ref n), some v, x] S5) : ∃ S', m_law [x0] [] = .ok (.bl true) S' := by
  obtain ⟨x, S5, l1⟩ := l1
  have g1 := fun S => gMod_int (S := S) (i := c1) (show (0:Int) < 2 by omega)
  have g2 := fun S => gDiv_int (S := S) (i := c1) (show (0:Int) < 2 by omega) (by decide)
  have r1 : rg1 [.int 3] S4 = .ok ⟨[.int 0, .int 1, .int 2], []⟩ S4 := rg1_nat (b := 3) (by omega)
  refine ⟨S5, ?_⟩
  generalize c1 % 2 = w0 at *
  generalize c1 / 2 = w1 at *
  simp [m_law, b_law, runB_eq, dFor_eq, e0, newL_ok, sl, ad, -gAdd_ref, e1, e2, g1, g2, e3, e4, r1, l1]
theorem TurnOk.gr {v : D} {S S' : Sto} (h : TurnOk v S) (g : Gr S S') : TurnOk v S' := by
  rcases h with h | ⟨T, y, L, h1, h2 | ⟨k, h2, h3⟩, h4⟩
  · exact .inl h
  · exact .inr ⟨T, y, L, h1, .inl h2, h4⟩
  · exact .inr ⟨T, y, L, h1, .inr ⟨k, h2, g.at h3⟩, h4⟩
theorem loop22 {wr : Int} {nm : Str} {es : List Ev} {fs : List Dd} (r : Run wr es fs) (hl : es.length ≤ 24) {x0 x2 v : D} {S : Sto} (ok : TurnOk v S) : ∃ x S5, forL [] (sName 4) l_law_0 [.int 0, .int 1, .int 2] [some x0, some (taleD nm es), some x2, some v, none] S = .nx [some x0, some (taleD nm es), some x2, some v, x] S5 := by
  obtain ⟨e, S', h, g, x, he⟩ := forL_inv (gd := []) (t := sName 4) (f := l_law_0) (items := [.int 0, .int 1, .int 2]) (env := [some x0, some (taleD nm es), some x2, some v, none]) (S := S)
    (fun i e S' => Gr S S' ∧ ∃ x, e = [some x0, some (taleD nm es), some x2, some v, x]) (fun _ _ _ _ => grd_none)
    (fun i d e S' hd ⟨g, x, he⟩ => by
      subst he
      obtain ⟨w, rfl, hw⟩ : ∃ w : Int, d = .int w ∧ (w = 0 ∨ w = 1 ∨ w = 2) := by
        have := List.mem_of_getElem? hd
        simp at this
        rcases this with rfl | rfl | rfl
        · exact ⟨0, rfl, .inl rfl⟩
        · exact ⟨1, rfl, .inr (.inl rfl)⟩
        · exact ⟨2, rfl, .inr (.inr rfl)⟩
      obtain ⟨d, S1, e1, g1⟩ := asked_spec (nm := nm) r hl hw S'
      obtain ⟨S2, e2, g2⟩ := (np_many (T := []) (E := .tup []) (.inl rfl)).refused hw S1
      have ok2 := ok.gr ((g.trans g1).trans g2)
      have g12 := (g.trans g1).trans g2
      obtain ⟨S3, h3, g3⟩ : ∃ S3, ((v = .non ∧ S3 = S2) ∨ ∃ T y L, v = .tup [.tup T, y] ∧ gTuple [y] S2 = .ok (.tup L) S2 ∧ m_law_refused [.tup [.tup T, .tup L], .int w] S2 = .ok (.bl true) S3) ∧ Gr S2 S3 := by
        rcases ok2 with h | ⟨T, y, L, h1, h2, h4⟩
        · exact ⟨S2, .inl ⟨h, rfl⟩, Gr.refl _⟩
        · obtain ⟨S3, e3, g3⟩ := h4.refused hw S2
          refine ⟨S3, .inr ⟨T, y, L, h1, ?_, e3⟩, g3⟩
          rcases h2 with rfl | ⟨k, rfl, hk⟩
          · simp
          · exact gTuple_lst hk
      exact ⟨_, _, _, S3, rfl, .inl (turn22 (x4 := none) e1 e2 h3), g12.trans g3, _, rfl⟩)
    ⟨Gr.refl _, none, rfl⟩
  subst he
  exact ⟨x, S', h⟩
theorem law_true (ns : List Int) (h : ns.length ≤ 63) : ∃ S', m_law [.scr (ns.map D.int)] [] = .ok (.bl true) S' := by
  obtain ⟨c0, hc0⟩ : ∃ c0, ∀ S, m_law_cell_at [.scr (ns.map D.int), .int 0] S = .ok (.int c0) S := by
    cases ns with
    | nil => exact ⟨0, fun S => by simp [m_law_cell_at, b_law_cell_at, runB_eq]⟩
    | cons a r => exact ⟨a, fun S => by
        have : (0 : Int) < (r.length : Int) + 1 := by omega
        simp [m_law_cell_at, b_law_cell_at, runB_eq, this]⟩
  obtain ⟨c1, hc1⟩ : ∃ c1, ∀ S, m_law_cell_at [.scr (ns.map D.int), .int 1] S = .ok (.int c1) S := by
    match ns with
    | [] => exact ⟨0, fun S => by simp [m_law_cell_at, b_law_cell_at, runB_eq]⟩
    | [a] => exact ⟨0, fun S => by simp [m_law_cell_at, b_law_cell_at, runB_eq]⟩
    | a :: b :: r => exact ⟨b, fun S => by
        have : (1 : Int) < (r.length : Int) + 1 + 1 := by omega
        simp [m_law_cell_at, b_law_cell_at, runB_eq, this]⟩
  have hL : ∀ d ∈ RL.cutD (ns.map D.int) (some 2) none, isInt d := by
    intro d hd
    obtain ⟨i, _, rfl⟩ := List.mem_map.mp (cutD_mem hd)
    exact ⟨i, rfl⟩
  have hLl : (RL.cutD (ns.map D.int) (some 2) none).length ≤ 100 := by
    unfold RL.cutD
    rw [List.length_take, List.length_drop, List.length_map]; omega
  have sl : ∀ S, gSl (.scr (ns.map D.int)) (some 2) none S = .ok (.ref S.length) (S ++ [.lst (RL.cutD (ns.map D.int) (some 2) none)]) := fun S => by simp
  generalize RL.cutD (ns.map D.int) (some 2) none = L at *
  have ad : gAdd (.ref 0) (.ref 1) [.lst [.int c0], .lst L] = .ok (.ref 2) [.lst [.int c0], .lst L, .lst (.int c0 :: L)] := by
    rw [gAdd_ref]
    exact addO_ok (S := [.lst [.int c0], .lst L]) (a := [.int c0]) (b := L) (by simp; omega)
  obtain ⟨wr, es, fs, nm, S2, e1, r, hl, hwr, hnl, hns⟩ := tale22 (k := 2) (S := [.lst [.int c0], .lst L, .lst (.int c0 :: L)]) (c0 := c0) (L := L) rfl hL
  obtain ⟨S3, e3, R3, _⟩ := stream_spec (S := S2) (c := c1 / 2) (w := c1 % 2)
  obtain ⟨v, S4, e4, ok⟩ := turned_spec (nm := nm) hns hnl hwr r (by omega) R3
  obtain ⟨x, S5, l1⟩ := loop22 (nm := nm) (x0 := .scr (ns.map D.int)) (x2 := .ref S2.length) r hl ok
  exact run22 (x4 := none) hc0 sl ad e1 hc1 e3 e4 ⟨x, S5, l1⟩

end LK
namespace LK
open PySem PySem.Spec PyProof.Rows L2 RL
def topS (i : Nat) : Stmt := PySem.Challenge.pw_talejudge_k22_not_plain.main.body.getD i (.Pass ⟨0, 0, 0, 0⟩)
structure Txt (K : Fg) (w : World) (mg : Mg) : Prop where
  ValueError : mg "ValueError" = none
  enumerate : mg "enumerate" = none
  int : mg "int" = none
  isinstance : mg "isinstance" = none
  len : mg "len" = none
  list : mg "list" = none
  max : mg "max" = none
  range : mg "range" = none
  sorted : mg "sorted" = none
  str : mg "str" = none
  tuple : mg "tuple" = none
  u_FIRST_BEGIN : ∃ u, mg "FIRST_BEGIN" = some u ∧ RepK K u c_FIRST_BEGIN
  u_FIRST_END : ∃ u, mg "FIRST_END" = some u ∧ RepK K u c_FIRST_END
  e_NoDealings : ∃ C, mg "NoDealings" = some (.ref C) ∧ ExcF K C
  e_NoDeed : ∃ C, mg "NoDeed" = some (.ref C) ∧ ExcF K C
  e_NoHand : ∃ C, mg "NoHand" = some (.ref C) ∧ ExcF K C
  e_NoOrder : ∃ C, mg "NoOrder" = some (.ref C) ∧ ExcF K C
  e_NoPlan : ∃ C, mg "NoPlan" = some (.ref C) ∧ ExcF K C
  e_NoRow : ∃ C, mg "NoRow" = some (.ref C) ∧ ExcF K C
  e_NoStrictness : ∃ C, mg "NoStrictness" = some (.ref C) ∧ ExcF K C
  e_NoTale : ∃ C, mg "NoTale" = some (.ref C) ∧ ExcF K C
  e_NoThing : ∃ C, mg "NoThing" = some (.ref C) ∧ ExcF K C
  e_NotPlain : ∃ C, mg "NotPlain" = some (.ref C) ∧ ExcF K C
  e_TaleError : ∃ C, mg "TaleError" = some (.ref C) ∧ ExcF K C
  exm_NotPlain_TaleError : ∀ C D : Addr, mg "NotPlain" = some (.ref C) → mg "TaleError" = some (.ref D) → PySem.W.exmOne K (.ref C) (.ref D) = some true
  exc_NotPlain : ∀ C : Addr, mg "NotPlain" = some (.ref C) → ExcC K C
  kit_NotPlain_NotPlain : ∀ C D : Addr, mg "NotPlain" = some (.ref C) → mg "NotPlain" = some (.ref D) → PySem.W.kitOne K (.ref C) (.ref D) = some true
  kit_NotPlain_ValueError : ∀ C : Addr, mg "NotPlain" = some (.ref C) → PySem.W.kitOne K (.ref C) (.type "ValueError") = some true
  kit_NotPlain_NoDealings : ∀ C D : Addr, mg "NotPlain" = some (.ref C) → mg "NoDealings" = some (.ref D) → PySem.W.kitOne K (.ref C) (.ref D) = some false
  kit_NotPlain_NoDeed : ∀ C D : Addr, mg "NotPlain" = some (.ref C) → mg "NoDeed" = some (.ref D) → PySem.W.kitOne K (.ref C) (.ref D) = some false
  kit_NotPlain_NoHand : ∀ C D : Addr, mg "NotPlain" = some (.ref C) → mg "NoHand" = some (.ref D) → PySem.W.kitOne K (.ref C) (.ref D) = some false
  kit_NotPlain_NoOrder : ∀ C D : Addr, mg "NotPlain" = some (.ref C) → mg "NoOrder" = some (.ref D) → PySem.W.kitOne K (.ref C) (.ref D) = some false
  kit_NotPlain_NoPlan : ∀ C D : Addr, mg "NotPlain" = some (.ref C) → mg "NoPlan" = some (.ref D) → PySem.W.kitOne K (.ref C) (.ref D) = some false
  kit_NotPlain_NoRow : ∀ C D : Addr, mg "NotPlain" = some (.ref C) → mg "NoRow" = some (.ref D) → PySem.W.kitOne K (.ref C) (.ref D) = some false
  kit_NotPlain_NoStrictness : ∀ C D : Addr, mg "NotPlain" = some (.ref C) → mg "NoStrictness" = some (.ref D) → PySem.W.kitOne K (.ref C) (.ref D) = some false
  kit_NotPlain_NoTale : ∀ C D : Addr, mg "NotPlain" = some (.ref C) → mg "NoTale" = some (.ref D) → PySem.W.kitOne K (.ref C) (.ref D) = some false
  kit_NotPlain_NoThing : ∀ C D : Addr, mg "NotPlain" = some (.ref C) → mg "NoThing" = some (.ref D) → PySem.W.kitOne K (.ref C) (.ref D) = some false
section
variable {P : Program} {w : World} {K : Fg} {mg : Mg} {base : Heap}
theorem Txt.g_FIRST_BEGIN (T : Txt K w mg) : mg "FIRST_BEGIN" = some T.u_FIRST_BEGIN.choose := T.u_FIRST_BEGIN.choose_spec.1
theorem Txt.r_FIRST_BEGIN (T : Txt K w mg) : RepK K T.u_FIRST_BEGIN.choose c_FIRST_BEGIN := T.u_FIRST_BEGIN.choose_spec.2
theorem Txt.g_FIRST_END (T : Txt K w mg) : mg "FIRST_END" = some T.u_FIRST_END.choose := T.u_FIRST_END.choose_spec.1
theorem Txt.r_FIRST_END (T : Txt K w mg) : RepK K T.u_FIRST_END.choose c_FIRST_END := T.u_FIRST_END.choose_spec.2
theorem Txt.g_NoDealings (T : Txt K w mg) : mg "NoDealings" = some (.ref T.e_NoDealings.choose) := T.e_NoDealings.choose_spec.1
theorem Txt.x_NoDealings (T : Txt K w mg) : ExcF K T.e_NoDealings.choose := T.e_NoDealings.choose_spec.2
theorem Txt.g_NoDeed (T : Txt K w mg) : mg "NoDeed" = some (.ref T.e_NoDeed.choose) := T.e_NoDeed.choose_spec.1
theorem Txt.x_NoDeed (T : Txt K w mg) : ExcF K T.e_NoDeed.choose := T.e_NoDeed.choose_spec.2
theorem Txt.g_NoHand (T : Txt K w mg) : mg "NoHand" = some (.ref T.e_NoHand.choose) := T.e_NoHand.choose_spec.1
theorem Txt.x_NoHand (T : Txt K w mg) : ExcF K T.e_NoHand.choose := T.e_NoHand.choose_spec.2
theorem Txt.g_NoOrder (T : Txt K w mg) : mg "NoOrder" = some (.ref T.e_NoOrder.choose) := T.e_NoOrder.choose_spec.1
theorem Txt.x_NoOrder (T : Txt K w mg) : ExcF K T.e_NoOrder.choose := T.e_NoOrder.choose_spec.2
theorem Txt.g_NoPlan (T : Txt K w mg) : mg "NoPlan" = some (.ref T.e_NoPlan.choose) := T.e_NoPlan.choose_spec.1
theorem Txt.x_NoPlan (T : Txt K w mg) : ExcF K T.e_NoPlan.choose := T.e_NoPlan.choose_spec.2
theorem Txt.g_NoRow (T : Txt K w mg) : mg "NoRow" = some (.ref T.e_NoRow.choose) := T.e_NoRow.choose_spec.1
theorem Txt.x_NoRow (T : Txt K w mg) : ExcF K T.e_NoRow.choose := T.e_NoRow.choose_spec.2
theorem Txt.g_NoStrictness (T : Txt K w mg) : mg "NoStrictness" = some (.ref T.e_NoStrictness.choose) := T.e_NoStrictness.choose_spec.1
theorem Txt.x_NoStrictness (T : Txt K w mg) : ExcF K T.e_NoStrictness.choose := T.e_NoStrictness.choose_spec.2
theorem Txt.g_NoTale (T : Txt K w mg) : mg "NoTale" = some (.ref T.e_NoTale.choose) := T.e_NoTale.choose_spec.1
theorem Txt.x_NoTale (T : Txt K w mg) : ExcF K T.e_NoTale.choose := T.e_NoTale.choose_spec.2
theorem Txt.g_NoThing (T : Txt K w mg) : mg "NoThing" = some (.ref T.e_NoThing.choose) := T.e_NoThing.choose_spec.1
theorem Txt.x_NoThing (T : Txt K w mg) : ExcF K T.e_NoThing.choose := T.e_NoThing.choose_spec.2
theorem Txt.g_NotPlain (T : Txt K w mg) : mg "NotPlain" = some (.ref T.e_NotPlain.choose) := T.e_NotPlain.choose_spec.1
theorem Txt.x_NotPlain (T : Txt K w mg) : ExcF K T.e_NotPlain.choose := T.e_NotPlain.choose_spec.2
theorem Txt.g_TaleError (T : Txt K w mg) : mg "TaleError" = some (.ref T.e_TaleError.choose) := T.e_TaleError.choose_spec.1
theorem Txt.x_TaleError (T : Txt K w mg) : ExcF K T.e_TaleError.choose := T.e_TaleError.choose_spec.2
abbrev s_last_written : Stmt := topS 20
theorem sc_last_written : FnScope ["writes", "begin", "told", "latest", "worth", "start", "end"] ["writes", "begin"] (defScope s_last_written) := ⟨rfl, rfl, rfl, by decide +kernel, rfl, by decide +kernel, by decide +kernel⟩
theorem ok_last_written (T : Txt K w mg) (F : FunAt K mg "last_written" s_last_written ["writes", "begin"])  : Cal P w K mg base "last_written" 1 2 m_last_written :=
  cal_of (N := ["writes", "begin", "told", "latest", "worth", "start", "end"]) F sc_last_written fun f cdv A outer s H E hr =>
  (bx_cons (sx_set (i := 2) sc_last_written.nd rfl (Or.inl rfl) ex_int)
  (bx_cons (sx_set (i := 3) sc_last_written.nd rfl (Or.inl rfl) ex_non)
  (bx_cons (sx_forN 0 (passes_of rfl) rfl (gx_name (i := 4) sc_last_written.nd rfl (Or.inl rfl))
  (bx_cons (sx_asg (ex_ix (ix_any (u1 hr)) okIx (ex_v 0) (ex_v 4) (fun _ _ => rfl)) (gx_tup rfl (gsx_cons (gx_name (i := 5) sc_last_written.nd rfl (Or.inl rfl)) (gsx_cons (gx_name (i := 6) sc_last_written.nd rfl (Or.inl rfl)) gsx_nil))))
  (bx_one (sx_if (tx_w (wx_and (tx_cmp (op_notN) okNotN (ex_v 6) ex_non (nomark _)) (wx_and (tx_cmp (op_lt) okCmp (ex_v 6) (ex_v 1) (nomark _)) (wx_and1 (tx_w (wx_or (tx_cmp (op_isN) okIsN (ex_v 3) ex_non (nomark _)) (wx_or1 (tx_cmp (op_gt) okCmp (ex_v 5) (ex_v 3) (nomark _))))))))) (bx_cons (sx_set (i := 3) sc_last_written.nd rfl (Or.inl rfl) (ex_v 5))
  (bx_one (sx_set (i := 2) sc_last_written.nd rfl (Or.inl rfl) (ex_v 4)))) bx_nil))))
  (bx_one (sx_ret (ex_v 2))))))
abbrev s_written_beside : Stmt := topS 21
theorem sc_written_beside : FnScope ["writes", "begin", "end", "found", "worth", "start", "stop"] ["writes", "begin", "end"] (defScope s_written_beside) := ⟨rfl, rfl, rfl, by decide +kernel, rfl, by decide +kernel, by decide +kernel⟩
theorem ok_written_beside (T : Txt K w mg) (F : FunAt K mg "written_beside" s_written_beside ["writes", "begin", "end"])  : Cal P w K mg base "written_beside" 1 3 m_written_beside :=
  cal_of (N := ["writes", "begin", "end", "found", "worth", "start", "stop"]) F sc_written_beside fun f cdv A outer s H E hr =>
  (bx_cons (sx_set (i := 3) sc_written_beside.nd rfl (Or.inl rfl) (ex_lst ax_nil))
  (bx_cons (sx_forN 0 (passes_of rfl) rfl (gx_name (i := 4) sc_written_beside.nd rfl (Or.inl rfl))
  (bx_cons (sx_asg (ex_ix (ix_any (u1 hr)) okIx (ex_v 0) (ex_v 4) (fun _ _ => rfl)) (gx_tup rfl (gsx_cons (gx_name (i := 5) sc_written_beside.nd rfl (Or.inl rfl)) (gsx_cons (gx_name (i := 6) sc_written_beside.nd rfl (Or.inl rfl)) gsx_nil))))
  (bx_one (sx_if (tx_w (wx_and (tx_cmp (op_lt) okCmp (ex_v 5) (ex_v 2) (nomark _)) (wx_and1 (tx_w (wx_or (tx_cmp (op_isN) okIsN (ex_v 6) ex_non (nomark _)) (wx_or1 (tx_cmp (op_gt) okCmp (ex_v 6) (ex_v 1) (nomark _)))))))) (bx_one (sx_expr (ex_bm PySem.F.plainAttrs_list PySem.F.slot_list_append PySem.F.type_list_append mt_append okAppend (ex_v 3) (ax_cons (ex_v 4) ax_nil)))) bx_nil))))
  (bx_one (sx_ret (ex_v 3)))))
abbrev s_deeds : Stmt := topS 13
theorem sc_deeds : FnScope ["tale", "found", "under_way", "place", "event", "number"] ["tale"] (defScope s_deeds) := ⟨rfl, rfl, rfl, by decide +kernel, rfl, by decide +kernel, by decide +kernel⟩
theorem ok_deeds (T : Txt K w mg) (F : FunAt K mg "deeds" s_deeds ["tale"])  : Cal P w K mg base "deeds" 1 1 m_deeds :=
  cal_of (N := ["tale", "found", "under_way", "place", "event", "number"]) F sc_deeds fun f cdv A outer s H E hr =>
  (bx_cons (sx_set (i := 1) sc_deeds.nd rfl (Or.inl rfl) (ex_lst ax_nil))
  (bx_cons (sx_set (i := 2) sc_deeds.nd rfl (Or.inl rfl) ex_dict0)
  (bx_cons (sx_for (passes_of rfl) rfl (ix_enum rfl T.enumerate (ax_cons (ex_ix (ix_any (u1 hr)) okIx (ex_v 0) ex_int (fun _ _ => rfl)) ax_nil)) (gx_tup rfl (gsx_cons (gx_name (i := 3) sc_deeds.nd rfl (Or.inl rfl)) (gsx_cons (gx_name (i := 4) sc_deeds.nd rfl (Or.inl rfl)) gsx_nil)))
  (bx_one (sx_if (tx_cmp (op_eqA (u64 hr)) okEq (ex_ix (ix_any (u1 hr)) okIx (ex_v 4) ex_int (fun _ _ => rfl)) ex_str (nomark _)) (bx_cons (sx_asg (ex_callB call_lenA okLen rfl T.len (by decide +kernel) (ax_cons (ex_v 1) ax_nil)) (gx_sub (u1 hr) (ex_v 2) (ex_ix (ix_any (u1 hr)) okIx (ex_v 4) ex_int (fun _ _ => rfl))))
  (bx_one (sx_expr (ex_bm PySem.F.plainAttrs_list PySem.F.slot_list_append PySem.F.type_list_append mt_append okAppend (ex_v 1) (ax_cons (ex_tup (ax_cons (ex_ix (ix_any (u1 hr)) okIx (ex_v 4) ex_int (fun _ _ => rfl)) (ax_cons (ex_ix (ix_any (u1 hr)) okIx (ex_v 4) ex_int (fun _ _ => rfl)) (ax_cons (ex_ix (ix_any (u1 hr)) okIx (ex_v 4) ex_int (fun _ _ => rfl)) (ax_cons (ex_ix (ix_any (u1 hr)) okIx (ex_v 4) ex_int (fun _ _ => rfl)) (ax_cons ex_non (ax_cons (ex_v 3) (ax_cons ex_non ax_nil)))))))) ax_nil))))) (bx_cons (sx_set (i := 5) sc_deeds.nd rfl (Or.inl rfl) (ex_ix (ix_any (u1 hr)) okIx (ex_v 2) (ex_ix (ix_any (u1 hr)) okIx (ex_v 4) ex_int (fun _ _ => rfl)) (fun _ _ => rfl)))
  (bx_one (sx_asg (ex_bin op_addA okAdd (ex_slice sl_all okSl (ex_ix (ix_any (u1 hr)) okIx (ex_v 1) (ex_v 5) (fun _ _ => rfl)) ox_none (ox_some ex_int)) (ex_tup (ax_cons (ex_ix (ix_any (u1 hr)) okIx (ex_v 4) ex_int (fun _ _ => rfl)) (ax_cons (ex_ix (ix_any (u1 hr)) okIx (ex_ix (ix_any (u1 hr)) okIx (ex_v 1) (ex_v 5) (fun _ _ => rfl)) ex_int (fun _ _ => rfl)) (ax_cons (ex_v 3) ax_nil))))) (gx_sub (u1 hr) (ex_v 1) (ex_v 5))))))))
  (bx_one (sx_ret (ex_v 1))))))
abbrev s_plain_deeds : Stmt := topS 17
theorem sc_plain_deeds : FnScope ["tale", "writes", "reads", "number", "hand", "name", "verb", "worth", "answer", "begin", "end"] ["tale"] (defScope s_plain_deeds) := ⟨rfl, rfl, rfl, by decide +kernel, rfl, by decide +kernel, by decide +kernel⟩
theorem ok_plain_deeds (T : Txt K w mg) (F : FunAt K mg "plain_deeds" s_plain_deeds ["tale"]) (k_deeds : Cal P w K mg base "deeds" 1 1 m_deeds) : Cal P w K mg base "plain_deeds" 2 1 m_plain_deeds :=
  cal_of (N := ["tale", "writes", "reads", "number", "hand", "name", "verb", "worth", "answer", "begin", "end"]) F sc_plain_deeds fun f cdv A outer s H E hr =>
  (bx_cons (sx_if (tx_w (wx_or (tx_cmp (op_neA (u64 hr)) okNe (ex_callB call_lenA okLen rfl T.len (by decide +kernel) (ax_cons (ex_ix (ix_any (u1 hr)) okIx (ex_v 0) ex_int (fun _ _ => rfl)) ax_nil)) ex_int (nomark _)) (wx_or1 (tx_cmp (op_neA (u64 hr)) okNe (ex_ix (ix_any (u1 hr)) okIx (ex_ix (ix_any (u1 hr)) okIx (ex_ix (ix_any (u1 hr)) okIx (ex_v 0) ex_int (fun _ _ => rfl)) ex_int (fun _ _ => rfl)) ex_int (fun _ _ => rfl)) ex_str (nomark _))))) (bx_one (sx_raise rfl (takes_of rfl rfl rfl rfl) T.x_NotPlain T.g_NotPlain rfl)) bx_nil)
  (bx_cons (sx_set (i := 1) sc_plain_deeds.nd rfl (Or.inl rfl) (ex_dict (pps_cons ex_int (ex_tup (ax_cons (ex_g (by rfl) T.g_FIRST_BEGIN T.r_FIRST_BEGIN) (ax_cons (ex_g (by rfl) T.g_FIRST_END T.r_FIRST_END) ax_nil))) pps_nil) rfl rfl (by intro h; cases h) (by decide)))
  (bx_cons (sx_set (i := 2) sc_plain_deeds.nd rfl (Or.inl rfl) (ex_lst ax_nil))
  (bx_cons (sx_for (passes_of rfl) rfl (ix_enum rfl T.enumerate (ax_cons (cx_call k_deeds hr (by decide) (takes_of rfl rfl rfl rfl) rfl (ax_cons (ex_v 0) ax_nil)) ax_nil)) (gx_tup rfl (gsx_cons (gx_name (i := 3) sc_plain_deeds.nd rfl (Or.inl rfl)) (gsx_cons (gx_tup rfl (gsx_cons (gx_name (i := 4) sc_plain_deeds.nd rfl (Or.inl rfl)) (gsx_cons (gx_name (i := 5) sc_plain_deeds.nd rfl (Or.inl rfl)) (gsx_cons (gx_name (i := 6) sc_plain_deeds.nd rfl (Or.inl rfl)) (gsx_cons (gx_name (i := 7) sc_plain_deeds.nd rfl (Or.inl rfl)) (gsx_cons (gx_name (i := 8) sc_plain_deeds.nd rfl (Or.inl rfl)) (gsx_cons (gx_name (i := 9) sc_plain_deeds.nd rfl (Or.inl rfl)) (gsx_cons (gx_name (i := 10) sc_plain_deeds.nd rfl (Or.inl rfl)) gsx_nil)))))))) gsx_nil)))
  (bx_one (sx_if (tx_cmp (op_eqA (u64 hr)) okEq (ex_v 6) ex_str (nomark _)) (bx_cons (sx_if (tx_w (wx_or (tx_cmp (op_inA (u65 hr)) okIn (ex_v 7) (ex_v 1) (by with_unfolding_all rfl)) (wx_or1 (tx_w (wx_and (tx_cmp (op_notN) okNotN (ex_v 10) ex_non (nomark _)) (wx_and1 (tx_cmp (op_neA (u64 hr)) okNe (ex_v 8) ex_str (nomark _)))))))) (bx_one (sx_raise rfl (takes_of rfl rfl rfl rfl) T.x_NotPlain T.g_NotPlain rfl)) bx_nil)
  (bx_one (sx_asg (ex_tup (ax_cons (ex_v 9) (ax_cons (ex_v 10) ax_nil))) (gx_sub (u1 hr) (ex_v 1) (ex_v 7))))) (bx_one (sx_if (tx_cmp (op_notN) okNotN (ex_v 10) ex_non (nomark _)) (bx_cons (sx_if (tx_val (ex_isi (T := "str") (by decide) rfl T.isinstance rfl T.str (by decide +kernel) (ex_v 8))) (bx_one (sx_raise rfl (takes_of rfl rfl rfl rfl) T.x_NotPlain T.g_NotPlain rfl)) bx_nil)
  (bx_one (sx_expr (ex_bm PySem.F.plainAttrs_list PySem.F.slot_list_append PySem.F.type_list_append mt_append okAppend (ex_v 2) (ax_cons (ex_tup (ax_cons (ex_v 3) (ax_cons (ex_v 8) (ax_cons (ex_v 9) (ax_cons (ex_v 10) ax_nil))))) ax_nil))))) bx_nil)))))
  (bx_one (sx_ret (ex_tup (ax_cons (ex_v 1) (ax_cons (ex_v 2) ax_nil)))))))))
abbrev s_written_by_one : Stmt := topS 19
theorem sc_written_by_one : FnScope ["tale", "writes", "reads", "hands", "deed"] ["tale"] (defScope s_written_by_one) := ⟨rfl, rfl, rfl, by decide +kernel, rfl, by decide +kernel, by decide +kernel⟩
theorem ok_written_by_one (T : Txt K w mg) (F : FunAt K mg "written_by_one" s_written_by_one ["tale"]) (k_deeds : Cal P w K mg base "deeds" 1 1 m_deeds) (k_plain_deeds : Cal P w K mg base "plain_deeds" 2 1 m_plain_deeds) : Cal P w K mg base "written_by_one" 3 1 m_written_by_one :=
  cal_of (N := ["tale", "writes", "reads", "hands", "deed"]) F sc_written_by_one fun f cdv A outer s H E hr =>
  (bx_cons (sx_asg (cx_call k_plain_deeds hr (by decide) (takes_of rfl rfl rfl rfl) rfl (ax_cons (ex_v 0) ax_nil)) (gx_tup rfl (gsx_cons (gx_name (i := 1) sc_written_by_one.nd rfl (Or.inl rfl)) (gsx_cons (gx_name (i := 2) sc_written_by_one.nd rfl (Or.inl rfl)) gsx_nil))))
  (bx_cons (sx_set (i := 3) sc_written_by_one.nd rfl (Or.inl rfl) ex_dict0)
  (bx_cons (sx_for (passes_of rfl) rfl (it_any (cx_call k_deeds hr (by decide) (takes_of rfl rfl rfl rfl) rfl (ax_cons (ex_v 0) ax_nil))) (gx_name (i := 4) sc_written_by_one.nd rfl (Or.inl rfl))
  (bx_one (sx_if (tx_cmp (op_eqA (u64 hr)) okEq (ex_ix (ix_any (u1 hr)) okIx (ex_v 4) ex_int (fun _ _ => rfl)) ex_str (nomark _)) (bx_one (sx_asg ex_bl (gx_sub (u1 hr) (ex_v 3) (ex_ix (ix_any (u1 hr)) okIx (ex_v 4) ex_int (fun _ _ => rfl))))) bx_nil)))
  (bx_cons (sx_if (tx_cmp (op_gt) okCmp (ex_callB call_lenA okLen rfl T.len (by decide +kernel) (ax_cons (ex_v 3) ax_nil)) ex_int (nomark _)) (bx_one (sx_raise rfl (takes_of rfl rfl rfl rfl) T.x_NotPlain T.g_NotPlain rfl)) bx_nil)
  (bx_one (sx_ret (ex_tup (ax_cons (ex_v 1) (ax_cons (ex_v 2) ax_nil)))))))))
abbrev s_is_regular : Stmt := topS 22
theorem sc_is_regular : FnScope ["tale", "writes", "reads", "number", "answer", "begin", "end"] ["tale"] (defScope s_is_regular) := ⟨rfl, rfl, rfl, by decide +kernel, rfl, by decide +kernel, by decide +kernel⟩
theorem ok_is_regular (T : Txt K w mg) (F : FunAt K mg "is_regular" s_is_regular ["tale"]) (k_last_written : Cal P w K mg base "last_written" 1 2 m_last_written) (k_written_beside : Cal P w K mg base "written_beside" 1 3 m_written_beside) (k_written_by_one : Cal P w K mg base "written_by_one" 3 1 m_written_by_one) : Cal P w K mg base "is_regular" 4 1 m_is_regular :=
  cal_of (N := ["tale", "writes", "reads", "number", "answer", "begin", "end"]) F sc_is_regular fun f cdv A outer s H E hr =>
  (bx_cons (sx_asg (cx_call k_written_by_one hr (by decide) (takes_of rfl rfl rfl rfl) rfl (ax_cons (ex_v 0) ax_nil)) (gx_tup rfl (gsx_cons (gx_name (i := 1) sc_is_regular.nd rfl (Or.inl rfl)) (gsx_cons (gx_name (i := 2) sc_is_regular.nd rfl (Or.inl rfl)) gsx_nil))))
  (bx_cons (sx_for (passes_of rfl) rfl (it_any (ex_v 2)) (gx_tup rfl (gsx_cons (gx_name (i := 3) sc_is_regular.nd rfl (Or.inl rfl)) (gsx_cons (gx_name (i := 4) sc_is_regular.nd rfl (Or.inl rfl)) (gsx_cons (gx_name (i := 5) sc_is_regular.nd rfl (Or.inl rfl)) (gsx_cons (gx_name (i := 6) sc_is_regular.nd rfl (Or.inl rfl)) gsx_nil)))))
  (bx_one (sx_if (tx_w (wx_and (tx_cmp (op_neA (u64 hr)) okNe (ex_v 4) (cx_call k_last_written hr (by decide) (takes_of rfl rfl rfl rfl) rfl (ax_cons (ex_v 1) (ax_cons (ex_v 5) ax_nil))) (nomark _)) (wx_and1 (tx_cmp (op_notInA (u65 hr)) okNotIn (ex_v 4) (cx_call k_written_beside hr (by decide) (takes_of rfl rfl rfl rfl) rfl (ax_cons (ex_v 1) (ax_cons (ex_v 5) (ax_cons (ex_v 6) ax_nil)))) (by with_unfolding_all rfl))))) (bx_one (sx_ret ex_bl)) bx_nil)))
  (bx_one (sx_ret ex_bl))))
abbrev s_is_safe : Stmt := topS 23
theorem sc_is_safe : FnScope ["tale", "writes", "reads", "number", "answer", "begin", "end"] ["tale"] (defScope s_is_safe) := ⟨rfl, rfl, rfl, by decide +kernel, rfl, by decide +kernel, by decide +kernel⟩
theorem ok_is_safe (T : Txt K w mg) (F : FunAt K mg "is_safe" s_is_safe ["tale"]) (k_last_written : Cal P w K mg base "last_written" 1 2 m_last_written) (k_written_beside : Cal P w K mg base "written_beside" 1 3 m_written_beside) (k_written_by_one : Cal P w K mg base "written_by_one" 3 1 m_written_by_one) : Cal P w K mg base "is_safe" 4 1 m_is_safe :=
  cal_of (N := ["tale", "writes", "reads", "number", "answer", "begin", "end"]) F sc_is_safe fun f cdv A outer s H E hr =>
  (bx_cons (sx_asg (cx_call k_written_by_one hr (by decide) (takes_of rfl rfl rfl rfl) rfl (ax_cons (ex_v 0) ax_nil)) (gx_tup rfl (gsx_cons (gx_name (i := 1) sc_is_safe.nd rfl (Or.inl rfl)) (gsx_cons (gx_name (i := 2) sc_is_safe.nd rfl (Or.inl rfl)) gsx_nil))))
  (bx_cons (sx_for (passes_of rfl) rfl (it_any (ex_v 2)) (gx_tup rfl (gsx_cons (gx_name (i := 3) sc_is_safe.nd rfl (Or.inl rfl)) (gsx_cons (gx_name (i := 4) sc_is_safe.nd rfl (Or.inl rfl)) (gsx_cons (gx_name (i := 5) sc_is_safe.nd rfl (Or.inl rfl)) (gsx_cons (gx_name (i := 6) sc_is_safe.nd rfl (Or.inl rfl)) gsx_nil)))))
  (bx_one (sx_if (tx_w (wx_and (tx_cmp (op_eqA (u64 hr)) okEq (cx_call k_written_beside hr (by decide) (takes_of rfl rfl rfl rfl) rfl (ax_cons (ex_v 1) (ax_cons (ex_v 5) (ax_cons (ex_v 6) ax_nil)))) (ex_lst ax_nil) (nomark _)) (wx_and1 (tx_cmp (op_neA (u64 hr)) okNe (ex_v 4) (cx_call k_last_written hr (by decide) (takes_of rfl rfl rfl rfl) rfl (ax_cons (ex_v 1) (ax_cons (ex_v 5) ax_nil))) (nomark _))))) (bx_one (sx_ret ex_bl)) bx_nil)))
  (bx_one (sx_ret ex_bl))))
abbrev s_turn_about : Stmt := topS 24
theorem sc_turn_about : FnScope ["tale", "writes", "reads", "known", "number", "answer", "begin", "end", "other", "newer", "start", "stop", "read"] ["tale"] (defScope s_turn_about) := ⟨rfl, rfl, rfl, by decide +kernel, rfl, by decide +kernel, by decide +kernel⟩
theorem ok_turn_about (T : Txt K w mg) (F : FunAt K mg "turn_about" s_turn_about ["tale"]) (k_written_by_one : Cal P w K mg base "written_by_one" 3 1 m_written_by_one) : Cal P w K mg base "turn_about" 4 1 m_turn_about :=
  cal_of (N := ["tale", "writes", "reads", "known", "number", "answer", "begin", "end", "other", "newer", "start", "stop", "read"]) F sc_turn_about fun f cdv A outer s H E hr =>
  (bx_cons (sx_asg (cx_call k_written_by_one hr (by decide) (takes_of rfl rfl rfl rfl) rfl (ax_cons (ex_v 0) ax_nil)) (gx_tup rfl (gsx_cons (gx_name (i := 1) sc_turn_about.nd rfl (Or.inr rfl)) (gsx_cons (gx_name (i := 2) sc_turn_about.nd rfl (Or.inl rfl)) gsx_nil))))
  (bx_cons (sx_setLc (i := 3) (own := [("read", 12)]) (c := (Sum.inl 12)) rfl sc_turn_about.nd rfl rfl (sw_true rfl rfl rfl (by decide +kernel)) (it_any (ex_v 2)) (blkOk_at (N1 := ["tale", "writes", "reads", "known", "number", "answer", "begin", "end", "other", "newer", "start", "stop", "read"]) (sc1 := defScope s_turn_about) rfl rfl (by decide +kernel)) (fun _ _ _ _ _ => (pg_name (i := 12) sc_turn_about.nd rfl (Or.inl rfl))) (fun _ _ _ _ _ => (txs_one (tx_cmp (op_inA (u65 hr)) okIn (ex_ix (ix_any (u1 hr)) okIx (ex_v 12) ex_int (fun _ _ => rfl)) (ex_v 1) (by with_unfolding_all rfl)))) (fun _ _ _ _ _ => (ex_v 12)))
  (bx_cons (sx_forN 3 (passes_of rfl) rfl (gx_tup rfl (gsx_cons (gx_name (i := 4) sc_turn_about.nd rfl (Or.inl rfl)) (gsx_cons (gx_name (i := 5) sc_turn_about.nd rfl (Or.inl rfl)) (gsx_cons (gx_name (i := 6) sc_turn_about.nd rfl (Or.inl rfl)) (gsx_cons (gx_name (i := 7) sc_turn_about.nd rfl (Or.inl rfl)) gsx_nil)))))
  (bx_one (sx_forN 3 (passes_of rfl) rfl (gx_tup rfl (gsx_cons (gx_name (i := 8) sc_turn_about.nd rfl (Or.inl rfl)) (gsx_cons (gx_name (i := 9) sc_turn_about.nd rfl (Or.inl rfl)) (gsx_cons (gx_name (i := 10) sc_turn_about.nd rfl (Or.inl rfl)) (gsx_cons (gx_name (i := 11) sc_turn_about.nd rfl (Or.inl rfl)) gsx_nil)))))
  (bx_one (sx_if (tx_w (wx_and (tx_cmp (op_lt) okCmp (ex_v 7) (ex_v 10) (nomark _)) (wx_and1 (tx_cmp (op_lt) okCmp (ex_ix (ix_any (u1 hr)) okIx (ex_ix (ix_any (u1 hr)) okIx (ex_v 1) (ex_v 9) (fun _ _ => rfl)) ex_int (fun _ _ => rfl)) (ex_ix (ix_any (u1 hr)) okIx (ex_ix (ix_any (u1 hr)) okIx (ex_v 1) (ex_v 5) (fun _ _ => rfl)) ex_int (fun _ _ => rfl)) (nomark _))))) (bx_one (sx_ret (ex_tup (ax_cons (ex_v 4) (ax_cons (ex_v 8) ax_nil))))) bx_nil)))))
  (bx_one (sx_ret ex_non)))))
abbrev s_law_asked : Stmt := topS 42
theorem sc_law_asked : FnScope ["tale", "which"] ["tale", "which"] (defScope s_law_asked) := ⟨rfl, rfl, rfl, by decide +kernel, rfl, by decide +kernel, by decide +kernel⟩
theorem ok_law_asked (T : Txt K w mg) (F : FunAt K mg "_law_asked" s_law_asked ["tale", "which"]) (k_is_regular : Cal P w K mg base "is_regular" 4 1 m_is_regular) (k_is_safe : Cal P w K mg base "is_safe" 4 1 m_is_safe) (k_turn_about : Cal P w K mg base "turn_about" 4 1 m_turn_about) : Cal P w K mg base "_law_asked" 5 2 m_law_asked :=
  cal_of (N := ["tale", "which"]) F sc_law_asked fun f cdv A outer s H E hr =>
  (bx_cons (sx_if (tx_cmp (op_eqA (u64 hr)) okEq (ex_v 1) ex_int (nomark _)) (bx_one (sx_ret (cx_call k_is_regular hr (by decide) (takes_of rfl rfl rfl rfl) rfl (ax_cons (ex_v 0) ax_nil)))) bx_nil)
  (bx_cons (sx_if (tx_cmp (op_eqA (u64 hr)) okEq (ex_v 1) ex_int (nomark _)) (bx_one (sx_ret (cx_call k_is_safe hr (by decide) (takes_of rfl rfl rfl rfl) rfl (ax_cons (ex_v 0) ax_nil)))) bx_nil)
  (bx_one (sx_ret (cx_call k_turn_about hr (by decide) (takes_of rfl rfl rfl rfl) rfl (ax_cons (ex_v 0) ax_nil))))))
abbrev s_law_cell_at : Stmt := topS 26
theorem sc_law_cell_at : FnScope ["script", "k"] ["script", "k"] (defScope s_law_cell_at) := ⟨rfl, rfl, rfl, by decide +kernel, rfl, by decide +kernel, by decide +kernel⟩
theorem ok_law_cell_at (T : Txt K w mg) (F : FunAt K mg "_law_cell_at" s_law_cell_at ["script", "k"])  : Cal P w K mg base "_law_cell_at" 1 2 m_law_cell_at :=
  cal_of (N := ["script", "k"]) F sc_law_cell_at fun f cdv A outer s H E hr =>
  (bx_cons (sx_if (tx_cmp (op_lt) okCmp (ex_v 1) (ex_callB call_lenA okLen rfl T.len (by decide +kernel) (ax_cons (ex_v 0) ax_nil)) (nomark _)) (bx_one (sx_ret (ex_ix (ix_any (u1 hr)) okIx (ex_v 0) (ex_v 1) (fun _ _ => rfl)))) bx_nil)
  (bx_one (sx_ret ex_int)))
abbrev s_law_refused : Stmt := topS 43
theorem sc_law_refused : FnScope ["tale", "which", "right", "e"] ["tale", "which"] (defScope s_law_refused) := ⟨rfl, rfl, rfl, by decide +kernel, rfl, by decide +kernel, by decide +kernel⟩
theorem ok_law_refused (T : Txt K w mg) (F : FunAt K mg "_law_refused" s_law_refused ["tale", "which"]) (k_law_asked : Cal P w K mg base "_law_asked" 5 2 m_law_asked) : Cal P w K mg base "_law_refused" 6 2 m_law_refused :=
  cal_of (N := ["tale", "which", "right", "e"]) F sc_law_refused fun f cdv A outer s H E hr =>
  (bx_cons (sx_set (i := 2) sc_law_refused.nd rfl (Or.inl rfl) ex_bl)
  (bx_cons (sx_tryAs (i := 3) (sb := [("NotPlain", true)]) rfl rfl sc_law_refused.nd rfl rfl ⟨rfl, by decide, .inl T.g_TaleError⟩ (takes_of rfl rfl rfl rfl) (ExmT.cons T.g_NotPlain (T.exm_NotPlain_TaleError _ _ T.g_NotPlain T.g_TaleError) ExmT.nil) (fun _ h => nomatch h) (fun W1 pn1 xe1 tk1 po1 => (bx_one (sx_expr (cx_call k_law_asked hr (by decide) tk1 rfl (ax_cons (ex_v 0) (ax_cons (ex_v 1) ax_nil))))))
  (fun c D a oe pn hs gD hz hd => (bx_cons (sx_set (i := 2) sc_law_refused.nd rfl (Or.inl rfl) (ex_and (ex_isE ((ExcTab.cons T.g_NotPlain (T.exc_NotPlain _ T.g_NotPlain) ExcTab.nil) c D _ hs gD) hz hd gD (KitT.cons T.g_NotPlain (T.kit_NotPlain_NotPlain _ _ T.g_NotPlain T.g_NotPlain) KitT.nil) clsV_ref (pe_glob rfl T.g_NotPlain rfl) rfl T.isinstance rfl (Or.inl rfl)) (ex_one (ex_isE ((ExcTab.cons T.g_NotPlain (T.exc_NotPlain _ T.g_NotPlain) ExcTab.nil) c D _ hs gD) hz hd gD (KitT.cons T.g_NotPlain (T.kit_NotPlain_ValueError _ T.g_NotPlain) KitT.nil) clsV_ty (pe_bltn rfl T.ValueError rfl (v := .ty "ValueError") rfl) rfl T.isinstance rfl (Or.inl rfl)))) (hr := noraw1 (by decide)))
  (bx_cons (sx_set (i := 2) sc_law_refused.nd rfl (Or.inl rfl) (ex_and (ex_v 2) (ex_one (ex_not (ex_isET (tabs := [[("NotPlain", false)], [("NotPlain", false)], [("NotPlain", false)], [("NotPlain", false)], [("NotPlain", false)], [("NotPlain", false)], [("NotPlain", false)]]) ((ExcTab.cons T.g_NotPlain (T.exc_NotPlain _ T.g_NotPlain) ExcTab.nil) c D _ hs gD) hz hd gD (KitTs.cons clsV_ref (KitT.cons T.g_NotPlain (T.kit_NotPlain_NoDealings _ _ T.g_NotPlain T.g_NoDealings) KitT.nil) (KitTs.cons clsV_ref (KitT.cons T.g_NotPlain (T.kit_NotPlain_NoDeed _ _ T.g_NotPlain T.g_NoDeed) KitT.nil) (KitTs.cons clsV_ref (KitT.cons T.g_NotPlain (T.kit_NotPlain_NoHand _ _ T.g_NotPlain T.g_NoHand) KitT.nil) (KitTs.cons clsV_ref (KitT.cons T.g_NotPlain (T.kit_NotPlain_NoOrder _ _ T.g_NotPlain T.g_NoOrder) KitT.nil) (KitTs.cons clsV_ref (KitT.cons T.g_NotPlain (T.kit_NotPlain_NoPlan _ _ T.g_NotPlain T.g_NoPlan) KitT.nil) (KitTs.cons clsV_ref (KitT.cons T.g_NotPlain (T.kit_NotPlain_NoRow _ _ T.g_NotPlain T.g_NoRow) KitT.nil) (KitTs.cons clsV_ref (KitT.cons T.g_NotPlain (T.kit_NotPlain_NoStrictness _ _ T.g_NotPlain T.g_NoStrictness) KitT.nil) KitTs.nil))))))) rfl (pa_cs1 (pe_glob rfl T.g_NoDealings rfl) (pa_cs1 (pe_glob rfl T.g_NoDeed rfl) (pa_cs1 (pe_glob rfl T.g_NoHand rfl) (pa_cs1 (pe_glob rfl T.g_NoOrder rfl) (pa_cs1 (pe_glob rfl T.g_NoPlan rfl) (pa_cs1 (pe_glob rfl T.g_NoRow rfl) (pa_cs1 (pe_glob rfl T.g_NoStrictness rfl) pa_cs0))))))) rfl T.isinstance rfl (Or.inl rfl))))) (hr := noraw1 (by decide)))
  (bx_one (sx_set (i := 2) sc_law_refused.nd rfl (Or.inl rfl) (ex_and (ex_v 2) (ex_one (ex_not (ex_isET (tabs := [[("NotPlain", false)], [("NotPlain", false)]]) ((ExcTab.cons T.g_NotPlain (T.exc_NotPlain _ T.g_NotPlain) ExcTab.nil) c D _ hs gD) hz hd gD (KitTs.cons clsV_ref (KitT.cons T.g_NotPlain (T.kit_NotPlain_NoTale _ _ T.g_NotPlain T.g_NoTale) KitT.nil) (KitTs.cons clsV_ref (KitT.cons T.g_NotPlain (T.kit_NotPlain_NoThing _ _ T.g_NotPlain T.g_NoThing) KitT.nil) KitTs.nil)) rfl (pa_cs1 (pe_glob rfl T.g_NoTale rfl) (pa_cs1 (pe_glob rfl T.g_NoThing rfl) pa_cs0)) rfl T.isinstance rfl (Or.inl rfl))))) (hr := noraw1 (by decide))))))))
  (bx_one (sx_ret (ex_v 2)))))
abbrev s_law_stream : Stmt := topS 27
theorem sc_law_stream : FnScope ["cell", "way", "low"] ["cell", "way"] (defScope s_law_stream) := ⟨rfl, rfl, rfl, by decide +kernel, rfl, by decide +kernel, by decide +kernel⟩
theorem ok_law_stream (T : Txt K w mg) (F : FunAt K mg "_law_stream" s_law_stream ["cell", "way"])  : Cal P w K mg base "_law_stream" 1 2 m_law_stream :=
  cal_of (N := ["cell", "way", "low"]) F sc_law_stream fun f cdv A outer s H E hr =>
  (bx_cons (sx_set (i := 2) sc_law_stream.nd rfl (Or.inl rfl) (ex_bin op_mod okMod (ex_v 0) ex_int))
  (bx_one (sx_ret (ex_lst (ax_cons (ex_v 0) (ax_cons (ex_v 1) (ax_cons (ex_bin op_mod okMod (ex_bin op_addA okAdd (ex_bin op_mulA okMul (ex_bin op_mod okMod (ex_bin op_mulA okMul (ex_v 2) (ex_v 2)) ex_int) (ex_bin op_addA okAdd (ex_v 2) ex_int)) ex_int) ex_int) ax_nil)))))))
abbrev s_law_take : Stmt := topS 28
theorem sc_law_take : FnScope ["row", "many", "told"] ["row", "many"] (defScope s_law_take) := ⟨rfl, rfl, rfl, by decide +kernel, rfl, by decide +kernel, by decide +kernel⟩
theorem ok_law_take (T : Txt K w mg) (F : FunAt K mg "_law_take" s_law_take ["row", "many"])  : Cal P w K mg base "_law_take" 1 2 m_law_take :=
  cal_of (N := ["row", "many", "told"]) F sc_law_take fun f cdv A outer s H E hr =>
  (bx_cons (sx_if (tx_w (wx_and (tx_cmp (op_eqA (u64 hr)) okEq (ex_ix (ix_any (u1 hr)) okIx (ex_v 0) ex_int (fun _ _ => rfl)) ex_int (nomark _)) (wx_and1 (tx_cmp (op_notInA (u65 hr)) okNotIn (ex_ix (ix_any (u1 hr)) okIx (ex_v 0) ex_int (fun _ _ => rfl)) (ex_tup (ax_cons ex_int (ax_cons (ex_un un_neg okNeg ex_int) ax_nil))) (by with_unfolding_all rfl))))) (bx_cons (sx_set (i := 2) sc_law_take.nd rfl (Or.inl rfl) (ex_bin op_mod okMod (ex_ix (ix_any (u1 hr)) okIx (ex_v 0) ex_int (fun _ _ => rfl)) (ex_v 1)))
  (bx_cons (sx_asg (ex_bin op_fdivW okDiv (ex_ix (ix_any (u1 hr)) okIx (ex_v 0) ex_int (fun _ _ => rfl)) (ex_v 1)) (gx_sub (u1 hr) (ex_v 0) ex_int))
  (bx_one (sx_ret (ex_v 2))))) bx_nil)
  (bx_cons (sx_asg (ex_bin op_mod okMod (ex_bin op_mulA okMul (ex_bin op_addA okAdd (ex_ix (ix_any (u1 hr)) okIx (ex_v 0) ex_int (fun _ _ => rfl)) ex_int) (ex_bin op_addA okAdd (ex_ix (ix_any (u1 hr)) okIx (ex_v 0) ex_int (fun _ _ => rfl)) ex_int)) ex_int) (gx_sub (u1 hr) (ex_v 0) ex_int))
  (bx_one (sx_ret (ex_bin op_mod okMod (ex_bin op_addA okAdd (ex_bin op_mulA okMul (ex_ix (ix_any (u1 hr)) okIx (ex_v 0) ex_int (fun _ _ => rfl)) ex_int) ex_int) (ex_v 1))))))
abbrev s_law_worth : Stmt := topS 29
theorem sc_law_worth : FnScope ["row", "kind"] ["row"] (defScope s_law_worth) := ⟨rfl, rfl, rfl, by decide +kernel, rfl, by decide +kernel, by decide +kernel⟩
theorem ok_law_worth (T : Txt K w mg) (F : FunAt K mg "_law_worth" s_law_worth ["row"]) (k_law_take : Cal P w K mg base "_law_take" 1 2 m_law_take) : Cal P w K mg base "_law_worth" 2 1 m_law_worth :=
  cal_of (N := ["row", "kind"]) F sc_law_worth fun f cdv A outer s H E hr =>
  (bx_cons (sx_set (i := 1) sc_law_worth.nd rfl (Or.inl rfl) (cx_call k_law_take hr (by decide) (takes_of rfl rfl rfl rfl) rfl (ax_cons (ex_v 0) (ax_cons ex_int ax_nil))))
  (bx_cons (sx_if (tx_cmp (op_eqA (u64 hr)) okEq (ex_v 1) ex_int (nomark _)) (bx_one (sx_ret (ex_bin op_sub okSub (cx_call k_law_take hr (by decide) (takes_of rfl rfl rfl rfl) rfl (ax_cons (ex_v 0) (ax_cons (ex_bin op_addA okAdd (ex_bin op_mulA okMul ex_int (ex_bin op_pow okPow ex_int ex_int)) ex_int) ax_nil))) (ex_bin op_pow okPow ex_int ex_int)))) bx_nil)
  (bx_cons (sx_if (tx_cmp (op_eqA (u64 hr)) okEq (ex_v 1) ex_int (nomark _)) (bx_one (sx_ret (ex_ix (ix_any (u1 hr)) okIx (ex_lst (ax_cons (ex_bin op_pow okPow ex_int ex_int) (ax_cons (ex_un un_neg okNeg (ex_bin op_pow okPow ex_int ex_int)) (ax_cons (ex_bin op_sub okSub (ex_bin op_pow okPow ex_int ex_int) ex_int) (ax_cons (ex_bin op_sub okSub ex_int (ex_bin op_pow okPow ex_int ex_int)) ax_nil))))) (cx_call k_law_take hr (by decide) (takes_of rfl rfl rfl rfl) rfl (ax_cons (ex_v 0) (ax_cons ex_int ax_nil))) (fun _ _ => rfl)))) bx_nil)
  (bx_one (sx_ret (ex_bin op_sub okSub (cx_call k_law_take hr (by decide) (takes_of rfl rfl rfl rfl) rfl (ax_cons (ex_v 0) (ax_cons ex_int ax_nil))) ex_int))))))
abbrev s_law_answer : Stmt := topS 32
theorem sc_law_answer : FnScope ["row", "worths", "kind", "back"] ["row", "worths"] (defScope s_law_answer) := ⟨rfl, rfl, rfl, by decide +kernel, rfl, by decide +kernel, by decide +kernel⟩
theorem ok_law_answer (T : Txt K w mg) (F : FunAt K mg "_law_answer" s_law_answer ["row", "worths"]) (k_law_take : Cal P w K mg base "_law_take" 1 2 m_law_take) (k_law_worth : Cal P w K mg base "_law_worth" 2 1 m_law_worth) : Cal P w K mg base "_law_answer" 3 2 m_law_answer :=
  cal_of (N := ["row", "worths", "kind", "back"]) F sc_law_answer fun f cdv A outer s H E hr =>
  (bx_cons (sx_set (i := 2) sc_law_answer.nd rfl (Or.inl rfl) (cx_call k_law_take hr (by decide) (takes_of rfl rfl rfl rfl) rfl (ax_cons (ex_v 0) (ax_cons ex_int ax_nil))))
  (bx_cons (sx_if (tx_cmp (op_eqA (u64 hr)) okEq (ex_v 2) ex_int (nomark _)) (bx_one (sx_ret (ex_ix (ix_any (u1 hr)) okIx (ex_lst (ax_cons (cx_call k_law_worth hr (by decide) (takes_of rfl rfl rfl rfl) rfl (ax_cons (ex_v 0) ax_nil)) (ax_cons (cx_call k_law_worth hr (by decide) (takes_of rfl rfl rfl rfl) rfl (ax_cons (ex_v 0) ax_nil)) (ax_cons (ex_bin op_pow okPow ex_int ex_int) (ax_cons (ex_un un_neg okNeg (ex_bin op_pow okPow ex_int ex_int)) (ax_cons (ex_bin op_addA okAdd (ex_bin op_pow okPow ex_int ex_int) ex_int) ax_nil)))))) (cx_call k_law_take hr (by decide) (takes_of rfl rfl rfl rfl) rfl (ax_cons (ex_v 0) (ax_cons ex_int ax_nil))) (fun _ _ => rfl)))) bx_nil)
  (bx_cons (sx_set (i := 3) sc_law_answer.nd rfl (Or.inl rfl) (ex_ix (ix_any (u1 hr)) okIx (ex_lst (ax_cons ex_int (ax_cons ex_int (ax_cons ex_int (ax_cons ex_int (ax_cons ex_int (ax_cons ex_int (ax_cons ex_int (ax_cons (cx_call k_law_take hr (by decide) (takes_of rfl rfl rfl rfl) rfl (ax_cons (ex_v 0) (ax_cons ex_int ax_nil))) ax_nil))))))))) (ex_v 2) (fun _ _ => rfl)))
  (bx_one (sx_ret (ex_ix (ix_any (u1 hr)) okIx (ex_v 1) (ex_callB (call_max2 rfl) okMax2 rfl T.max (by decide +kernel) (ax_cons ex_int (ax_cons (ex_bin op_sub okSub (ex_bin op_sub okSub (ex_callB call_lenA okLen rfl T.len (by decide +kernel) (ax_cons (ex_v 1) ax_nil)) ex_int) (ex_v 3)) ax_nil))) (fun _ _ => rfl)))))))
abbrev s_law_fresh : Stmt := topS 31
theorem sc_law_fresh : FnScope ["row", "used", "worth"] ["row", "used"] (defScope s_law_fresh) := ⟨rfl, rfl, rfl, by decide +kernel, rfl, by decide +kernel, by decide +kernel⟩
theorem ok_law_fresh (T : Txt K w mg) (F : FunAt K mg "_law_fresh" s_law_fresh ["row", "used"]) (k_law_worth : Cal P w K mg base "_law_worth" 2 1 m_law_worth) : Cal P w K mg base "_law_fresh" 3 2 m_law_fresh :=
  cal_of (N := ["row", "used", "worth"]) F sc_law_fresh fun f cdv A outer s H E hr =>
  (bx_cons (sx_set (i := 2) sc_law_fresh.nd rfl (Or.inl rfl) (cx_call k_law_worth hr (by decide) (takes_of rfl rfl rfl rfl) rfl (ax_cons (ex_v 0) ax_nil)))
  (bx_cons (sx_while 1000000 (passes_of rfl) (tx_cmp (op_inA (u65 hr)) okIn (ex_v 2) (ex_v 1) (by with_unfolding_all rfl)) (bx_cons (sx_set (i := 2) sc_law_fresh.nd rfl (Or.inl rfl) (ex_bin op_addA okAdd (ex_v 2) ex_int))
  (bx_one (sx_if (tx_cmp (op_gt) okCmp (ex_v 2) (ex_bin op_pow okPow ex_int ex_int) (nomark _)) (bx_one (sx_set (i := 2) sc_law_fresh.nd rfl (Or.inl rfl) (ex_un un_neg okNeg (ex_bin op_pow okPow ex_int ex_int)))) bx_nil))))
  (bx_cons (sx_asg ex_bl (gx_sub (u1 hr) (ex_v 1) (ex_v 2)))
  (bx_one (sx_ret (ex_v 2))))))
abbrev s_law_events : Stmt := topS 33
theorem sc_law_events : FnScope ["cells", "way", "head", "name", "hands", "writer", "used", "worths", "busy", "events", "cell", "row", "hand", "answer"] ["cells", "way", "head", "name"] (defScope s_law_events) := ⟨rfl, rfl, rfl, by decide +kernel, rfl, by decide +kernel, by decide +kernel⟩
theorem ok_law_events (T : Txt K w mg) (F : FunAt K mg "_law_events" s_law_events ["cells", "way", "head", "name"]) (k_law_answer : Cal P w K mg base "_law_answer" 3 2 m_law_answer) (k_law_fresh : Cal P w K mg base "_law_fresh" 3 2 m_law_fresh) (k_law_stream : Cal P w K mg base "_law_stream" 1 2 m_law_stream) (k_law_take : Cal P w K mg base "_law_take" 1 2 m_law_take) : Cal P w K mg base "_law_events" 4 4 m_law_events :=
  cal_of (N := ["cells", "way", "head", "name", "hands", "writer", "used", "worths", "busy", "events", "cell", "row", "hand", "answer"]) F sc_law_events fun f cdv A outer s H E hr =>
  (bx_cons (sx_set (i := 4) sc_law_events.nd rfl (Or.inl rfl) (ex_bin op_addA okAdd ex_int (cx_call k_law_take hr (by decide) (takes_of rfl rfl rfl rfl) rfl (ax_cons (ex_v 2) (ax_cons ex_int ax_nil)))))
  (bx_cons (sx_set (i := 5) sc_law_events.nd rfl (Or.inl rfl) (cx_call k_law_take hr (by decide) (takes_of rfl rfl rfl rfl) rfl (ax_cons (ex_v 2) (ax_cons (ex_v 4) ax_nil))))
  (bx_cons (sx_set (i := 6) sc_law_events.nd rfl (Or.inl rfl) (ex_dict (pps_cons ex_int ex_bl pps_nil) rfl rfl (by intro h; cases h) (by decide)))
  (bx_cons (sx_set (i := 7) sc_law_events.nd rfl (Or.inl rfl) (ex_lst (ax_cons ex_int ax_nil)))
  (bx_cons (sx_set (i := 8) sc_law_events.nd rfl (Or.inl rfl) ex_dict0)
  (bx_cons (sx_set (i := 9) sc_law_events.nd rfl (Or.inl rfl) (ex_lst ax_nil))
  (bx_cons (sx_for (passes_of rfl) rfl (it_any (ex_v 0)) (gx_name (i := 10) sc_law_events.nd rfl (Or.inl rfl))
  (bx_cons (sx_set (i := 11) sc_law_events.nd rfl (Or.inl rfl) (cx_call k_law_stream hr (by decide) (takes_of rfl rfl rfl rfl) rfl (ax_cons (ex_bin op_fdivW okDiv (ex_v 10) ex_int) (ax_cons (ex_v 1) ax_nil))))
  (bx_cons (sx_set (i := 12) sc_law_events.nd rfl (Or.inl rfl) (cx_call k_law_take hr (by decide) (takes_of rfl rfl rfl rfl) rfl (ax_cons (ex_v 11) (ax_cons (ex_v 4) ax_nil))))
  (bx_one (sx_if (tx_cmp (op_inA (u65 hr)) okIn (ex_v 12) (ex_v 8) (by with_unfolding_all rfl)) (bx_cons (sx_set (i := 13) sc_law_events.nd rfl (Or.inl rfl) ex_str)
  (bx_cons (sx_if (tx_cmp (op_eqA (u64 hr)) okEq (ex_pop1 (u1 hr) (ex_v 8) (ax_cons (ex_v 12) ax_nil) (ex_bm PySem.F.plainAttrs_list PySem.F.slot_list_pop PySem.F.type_list_pop mt_popAt okPopAt (ex_v 8) (ax_cons (ex_v 12) ax_nil)) (ex_bm PySem.F.plainAttrs_dict PySem.F.slot_dict_pop PySem.F.type_dict_pop mt_dpop okDPop (ex_v 8) (ax_cons (ex_v 12) ax_nil))) ex_str (nomark _)) (bx_one (sx_set (i := 13) sc_law_events.nd rfl (Or.inl rfl) (cx_call k_law_answer hr (by decide) (takes_of rfl rfl rfl rfl) rfl (ax_cons (ex_v 11) (ax_cons (ex_v 7) ax_nil))))) bx_nil)
  (bx_one (sx_expr (ex_bm PySem.F.plainAttrs_list PySem.F.slot_list_append PySem.F.type_list_append mt_append okAppend (ex_v 9) (ax_cons (ex_tup (ax_cons ex_str (ax_cons (ex_v 12) (ax_cons (ex_v 13) ax_nil)))) ax_nil)))))) (bx_one (sx_if (tx_w (wx_and (tx_cmp (op_eqA (u64 hr)) okEq (ex_v 12) (ex_v 5) (nomark _)) (wx_and1 (tx_cmp (op_gt) okCmp (cx_call k_law_take hr (by decide) (takes_of rfl rfl rfl rfl) rfl (ax_cons (ex_v 11) (ax_cons ex_int ax_nil))) ex_int (nomark _))))) (bx_cons (sx_expr (ex_bm PySem.F.plainAttrs_list PySem.F.slot_list_append PySem.F.type_list_append mt_append okAppend (ex_v 7) (ax_cons (cx_call k_law_fresh hr (by decide) (takes_of rfl rfl rfl rfl) rfl (ax_cons (ex_v 11) (ax_cons (ex_v 6) ax_nil))) ax_nil)))
  (bx_cons (sx_asg ex_str (gx_sub (u1 hr) (ex_v 8) (ex_v 12)))
  (bx_one (sx_expr (ex_bm PySem.F.plainAttrs_list PySem.F.slot_list_append PySem.F.type_list_append mt_append okAppend (ex_v 9) (ax_cons (ex_tup (ax_cons ex_str (ax_cons (ex_v 12) (ax_cons (ex_v 3) (ax_cons ex_str (ax_cons (ex_ix (ix_any (u1 hr)) okIx (ex_v 7) (ex_un un_neg okNeg ex_int) (fun _ _ => rfl)) ax_nil)))))) ax_nil)))))) (bx_cons (sx_asg ex_str (gx_sub (u1 hr) (ex_v 8) (ex_v 12)))
  (bx_one (sx_expr (ex_bm PySem.F.plainAttrs_list PySem.F.slot_list_append PySem.F.type_list_append mt_append okAppend (ex_v 9) (ax_cons (ex_tup (ax_cons ex_str (ax_cons (ex_v 12) (ax_cons (ex_v 3) (ax_cons ex_str (ax_cons ex_non ax_nil)))))) ax_nil))))))))))))
  (bx_one (sx_ret (ex_v 9))))))))))
abbrev s_law_name : Stmt := topS 30
theorem sc_law_name : FnScope ["row", "letters", "name", "k"] ["row"] (defScope s_law_name) := ⟨rfl, rfl, rfl, by decide +kernel, rfl, by decide +kernel, by decide +kernel⟩
theorem ok_law_name (T : Txt K w mg) (F : FunAt K mg "_law_name" s_law_name ["row"]) (k_law_take : Cal P w K mg base "_law_take" 1 2 m_law_take) : Cal P w K mg base "_law_name" 2 1 m_law_name :=
  cal_of (N := ["row", "letters", "name", "k"]) F sc_law_name fun f cdv A outer s H E hr =>
  (bx_cons (sx_set (i := 1) sc_law_name.nd rfl (Or.inl rfl) ex_str)
  (bx_cons (sx_set (i := 2) sc_law_name.nd rfl (Or.inl rfl) ex_str)
  (bx_cons (sx_for (passes_of rfl) rfl (ix_range1 rfl T.range (ax_cons (ex_bin op_addA okAdd ex_int (cx_call k_law_take hr (by decide) (takes_of rfl rfl rfl rfl) rfl (ax_cons (ex_v 0) (ax_cons ex_int ax_nil)))) ax_nil)) (gx_name (i := 3) sc_law_name.nd rfl (Or.inl rfl))
  (bx_one (sx_set (i := 2) sc_law_name.nd rfl (Or.inl rfl) (ex_bin op_addA okAdd (ex_v 2) (ex_ix (ix_any (u1 hr)) okIx (ex_v 1) (cx_call k_law_take hr (by decide) (takes_of rfl rfl rfl rfl) rfl (ax_cons (ex_v 0) (ax_cons ex_int ax_nil))) (fun _ _ => rfl))))))
  (bx_one (sx_ret (ex_v 2))))))
abbrev s_law_tale : Stmt := topS 34
theorem sc_law_tale : FnScope ["script", "most", "first", "head", "name"] ["script", "most"] (defScope s_law_tale) := ⟨rfl, rfl, rfl, by decide +kernel, rfl, by decide +kernel, by decide +kernel⟩
theorem ok_law_tale (T : Txt K w mg) (F : FunAt K mg "_law_tale" s_law_tale ["script", "most"]) (k_law_cell_at : Cal P w K mg base "_law_cell_at" 1 2 m_law_cell_at) (k_law_events : Cal P w K mg base "_law_events" 4 4 m_law_events) (k_law_name : Cal P w K mg base "_law_name" 2 1 m_law_name) (k_law_stream : Cal P w K mg base "_law_stream" 1 2 m_law_stream) : Cal P w K mg base "_law_tale" 5 2 m_law_tale :=
  cal_of (N := ["script", "most", "first", "head", "name"]) F sc_law_tale fun f cdv A outer s H E hr =>
  (bx_cons (sx_set (i := 2) sc_law_tale.nd rfl (Or.inl rfl) (cx_call k_law_cell_at hr (by decide) (takes_of rfl rfl rfl rfl) rfl (ax_cons (ex_v 0) (ax_cons ex_int ax_nil))))
  (bx_cons (sx_set (i := 3) sc_law_tale.nd rfl (Or.inl rfl) (cx_call k_law_stream hr (by decide) (takes_of rfl rfl rfl rfl) rfl (ax_cons (ex_bin op_fdivW okDiv (ex_v 2) ex_int) (ax_cons (ex_bin op_mod okMod (ex_v 2) ex_int) ax_nil))))
  (bx_cons (sx_set (i := 4) sc_law_tale.nd rfl (Or.inl rfl) (cx_call k_law_name hr (by decide) (takes_of rfl rfl rfl rfl) rfl (ax_cons (ex_v 3) ax_nil)))
  (bx_one (sx_ret (ex_tup (ax_cons (ex_tup (ax_cons (ex_tup (ax_cons (ex_v 4) (ax_cons ex_str ax_nil))) ax_nil)) (ax_cons (ex_callTy call_tuple_of okTuple rfl T.tuple (by decide +kernel) (ax_cons (cx_call k_law_events hr (by decide) (takes_of rfl rfl rfl rfl) rfl (ax_cons (ex_slice sl_all okSl (ex_v 0) (ox_some ex_int) (ox_some (ex_bin op_addA okAdd ex_int (ex_v 1)))) (ax_cons (ex_bin op_mod okMod (ex_v 2) ex_int) (ax_cons (ex_v 3) (ax_cons (ex_v 4) ax_nil))))) ax_nil)) ax_nil))))))))
abbrev s_law_end_of : Stmt := topS 36
theorem sc_law_end_of : FnScope ["events", "at", "k"] ["events", "at"] (defScope s_law_end_of) := ⟨rfl, rfl, rfl, by decide +kernel, rfl, by decide +kernel, by decide +kernel⟩
theorem ok_law_end_of (T : Txt K w mg) (F : FunAt K mg "_law_end_of" s_law_end_of ["events", "at"])  : Cal P w K mg base "_law_end_of" 1 2 m_law_end_of :=
  cal_of (N := ["events", "at", "k"]) F sc_law_end_of fun f cdv A outer s H E hr =>
  (bx_cons (sx_for (passes_of rfl) rfl (ix_range2 rfl T.range (ax_cons (ex_bin op_addA okAdd (ex_v 1) ex_int) (ax_cons (ex_callB call_lenA okLen rfl T.len (by decide +kernel) (ax_cons (ex_v 0) ax_nil)) ax_nil))) (gx_name (i := 2) sc_law_end_of.nd rfl (Or.inl rfl))
  (bx_one (sx_if (tx_cmp (op_eqA (u64 hr)) okEq (ex_ix (ix_any (u1 hr)) okIx (ex_ix (ix_any (u1 hr)) okIx (ex_v 0) (ex_v 2) (fun _ _ => rfl)) ex_int (fun _ _ => rfl)) (ex_ix (ix_any (u1 hr)) okIx (ex_ix (ix_any (u1 hr)) okIx (ex_v 0) (ex_v 1) (fun _ _ => rfl)) ex_int (fun _ _ => rfl)) (nomark _)) (bx_one (sx_ret (ex_v 2))) bx_nil)))
  (bx_one (sx_ret ex_non)))
abbrev s_law_answered : Stmt := topS 37
theorem sc_law_answered : FnScope ["events", "at", "answer", "end", "found"] ["events", "at", "answer"] (defScope s_law_answered) := ⟨rfl, rfl, rfl, by decide +kernel, rfl, by decide +kernel, by decide +kernel⟩
theorem ok_law_answered (T : Txt K w mg) (F : FunAt K mg "_law_answered" s_law_answered ["events", "at", "answer"]) (k_law_end_of : Cal P w K mg base "_law_end_of" 1 2 m_law_end_of) : Cal P w K mg base "_law_answered" 2 3 m_law_answered :=
  cal_of (N := ["events", "at", "answer", "end", "found"]) F sc_law_answered fun f cdv A outer s H E hr =>
  (bx_cons (sx_set (i := 3) sc_law_answered.nd rfl (Or.inl rfl) (cx_call k_law_end_of hr (by decide) (takes_of rfl rfl rfl rfl) rfl (ax_cons (ex_v 0) (ax_cons (ex_v 1) ax_nil))))
  (bx_cons (sx_set (i := 4) sc_law_answered.nd rfl (Or.inl rfl) (ex_callTy call_list_of okList rfl T.list (by decide +kernel) (ax_cons (ex_v 0) ax_nil)))
  (bx_cons (sx_if (tx_cmp (op_isN) okIsN (ex_v 3) ex_non (nomark _)) (bx_one (sx_expr (ex_bm PySem.F.plainAttrs_list PySem.F.slot_list_append PySem.F.type_list_append mt_append okAppend (ex_v 4) (ax_cons (ex_tup (ax_cons ex_str (ax_cons (ex_ix (ix_any (u1 hr)) okIx (ex_ix (ix_any (u1 hr)) okIx (ex_v 0) (ex_v 1) (fun _ _ => rfl)) ex_int (fun _ _ => rfl)) (ax_cons (ex_v 2) ax_nil)))) ax_nil)))) (bx_one (sx_asg (ex_tup (ax_cons ex_str (ax_cons (ex_ix (ix_any (u1 hr)) okIx (ex_ix (ix_any (u1 hr)) okIx (ex_v 0) (ex_v 1) (fun _ _ => rfl)) ex_int (fun _ _ => rfl)) (ax_cons (ex_v 2) ax_nil)))) (gx_sub (u1 hr) (ex_v 4) (ex_v 3)))))
  (bx_one (sx_ret (ex_v 4))))))
abbrev s_law_begins : Stmt := topS 35
theorem sc_law_begins : FnScope ["events", "verb", "k"] ["events", "verb"] (defScope s_law_begins) := ⟨rfl, rfl, rfl, by decide +kernel, rfl, by decide +kernel, by decide +kernel⟩
theorem ok_law_begins (T : Txt K w mg) (F : FunAt K mg "_law_begins" s_law_begins ["events", "verb"])  : Cal P w K mg base "_law_begins" 1 2 m_law_begins :=
  cal_of (N := ["events", "verb", "k"]) F sc_law_begins fun f cdv A outer s H E hr =>
  (bx_one (sx_ret (ex_lc (own := [("k", 2)]) (c := (Sum.inl 2)) rfl sc_law_begins.nd (ix_range1 rfl T.range (ax_cons (ex_callB call_lenA okLen rfl T.len (by decide +kernel) (ax_cons (ex_v 0) ax_nil)) ax_nil)) (blkOk_at (N1 := ["events", "verb", "k"]) (sc1 := defScope s_law_begins) rfl rfl (by decide +kernel)) (fun _ _ _ _ _ => (pg_name (i := 2) sc_law_begins.nd rfl (Or.inl rfl))) (fun _ _ _ _ _ => (txs_one (tx_w (wx_and (tx_cmp (op_eqA (u64 hr)) okEq (ex_ix (ix_any (u1 hr)) okIx (ex_ix (ix_any (u1 hr)) okIx (ex_v 0) (ex_v 2) (fun _ _ => rfl)) ex_int (fun _ _ => rfl)) ex_str (nomark _)) (wx_and1 (tx_cmp (op_eqA (u64 hr)) okEq (ex_ix (ix_any (u1 hr)) okIx (ex_ix (ix_any (u1 hr)) okIx (ex_v 0) (ex_v 2) (fun _ _ => rfl)) ex_int (fun _ _ => rfl)) (ex_v 1) (nomark _))))))) (fun _ _ _ _ _ => (ex_v 2)))))
abbrev s_law_closed : Stmt := topS 38
theorem sc_law_closed : FnScope ["events", "hand", "found", "mine", "event"] ["events", "hand"] (defScope s_law_closed) := ⟨rfl, rfl, rfl, by decide +kernel, rfl, by decide +kernel, by decide +kernel⟩
theorem ok_law_closed (T : Txt K w mg) (F : FunAt K mg "_law_closed" s_law_closed ["events", "hand"])  : Cal P w K mg base "_law_closed" 1 2 m_law_closed :=
  cal_of (N := ["events", "hand", "found", "mine", "event"]) F sc_law_closed fun f cdv A outer s H E hr =>
  (bx_cons (sx_set (i := 2) sc_law_closed.nd rfl (Or.inl rfl) (ex_callTy call_list_of okList rfl T.list (by decide +kernel) (ax_cons (ex_v 0) ax_nil)))
  (bx_cons (sx_setLc (i := 3) (own := [("event", 4)]) (c := (Sum.inl 4)) rfl sc_law_closed.nd rfl rfl (sw_true rfl rfl rfl (by decide +kernel)) (it_any (ex_v 0)) (blkOk_at (N1 := ["events", "hand", "found", "mine", "event"]) (sc1 := defScope s_law_closed) rfl rfl (by decide +kernel)) (fun _ _ _ _ _ => (pg_name (i := 4) sc_law_closed.nd rfl (Or.inl rfl))) (fun _ _ _ _ _ => (txs_one (tx_cmp (op_eqA (u64 hr)) okEq (ex_ix (ix_any (u1 hr)) okIx (ex_v 4) ex_int (fun _ _ => rfl)) (ex_v 1) (nomark _)))) (fun _ _ _ _ _ => (ex_v 4)))
  (bx_cons (sx_if (tx_w (wx_and (tx_cmp (op_neA (u64 hr)) okNe (ex_v 3) (ex_lst ax_nil) (nomark _)) (wx_and1 (tx_cmp (op_eqA (u64 hr)) okEq (ex_ix (ix_any (u1 hr)) okIx (ex_ix (ix_any (u1 hr)) okIx (ex_v 3) (ex_un un_neg okNeg ex_int) (fun _ _ => rfl)) ex_int (fun _ _ => rfl)) ex_str (nomark _))))) (bx_one (sx_expr (ex_bm PySem.F.plainAttrs_list PySem.F.slot_list_append PySem.F.type_list_append mt_append okAppend (ex_v 2) (ax_cons (ex_tup (ax_cons ex_str (ax_cons (ex_v 1) (ax_cons (ex_ix (ix_any (u1 hr)) okIx (ex_lst (ax_cons ex_str (ax_cons ex_int ax_nil))) (ex_callTy call_intA okInt rfl T.int (by decide +kernel) (ax_cons (ex_cmp (op_eqA (u64 hr)) okEq (ex_ix (ix_any (u1 hr)) okIx (ex_ix (ix_any (u1 hr)) okIx (ex_v 3) (ex_un un_neg okNeg ex_int) (fun _ _ => rfl)) ex_int (fun _ _ => rfl)) ex_str (nomark _)) ax_nil)) (fun _ _ => rfl)) ax_nil)))) ax_nil)))) bx_nil)
  (bx_one (sx_ret (ex_v 2))))))
abbrev s_law_beside : Stmt := topS 40
theorem sc_law_beside : FnScope ["tale", "row", "things", "events", "name", "other", "kind", "acts", "verb", "worth", "found"] ["tale", "row"] (defScope s_law_beside) := ⟨rfl, rfl, rfl, by decide +kernel, rfl, by decide +kernel, by decide +kernel⟩
theorem ok_law_beside (T : Txt K w mg) (F : FunAt K mg "_law_beside" s_law_beside ["tale", "row"]) (k_law_closed : Cal P w K mg base "_law_closed" 1 2 m_law_closed) (k_law_take : Cal P w K mg base "_law_take" 1 2 m_law_take) : Cal P w K mg base "_law_beside" 2 2 m_law_beside :=
  cal_of (N := ["tale", "row", "things", "events", "name", "other", "kind", "acts", "verb", "worth", "found"]) F sc_law_beside fun f cdv A outer s H E hr =>
  (bx_cons (sx_asg (ex_v 0) (gx_tup rfl (gsx_cons (gx_name (i := 2) sc_law_beside.nd rfl (Or.inl rfl)) (gsx_cons (gx_name (i := 3) sc_law_beside.nd rfl (Or.inl rfl)) gsx_nil))))
  (bx_cons (sx_set (i := 4) sc_law_beside.nd rfl (Or.inl rfl) (ex_ix (ix_any (u1 hr)) okIx (ex_ix (ix_any (u1 hr)) okIx (ex_v 2) ex_int (fun _ _ => rfl)) ex_int (fun _ _ => rfl)))
  (bx_cons (sx_set (i := 5) sc_law_beside.nd rfl (Or.inl rfl) (ex_slice sl_all okSl (ex_ix (ix_any (u1 hr)) okIx (ex_lst (ax_cons ex_str (ax_cons ex_str (ax_cons (ex_bin op_addA okAdd (ex_v 4) ex_str) (ax_cons (ex_bin op_addA okAdd ex_str (ex_v 4)) ax_nil))))) (cx_call k_law_take hr (by decide) (takes_of rfl rfl rfl rfl) rfl (ax_cons (ex_v 1) (ax_cons ex_int ax_nil))) (fun _ _ => rfl)) ox_none (ox_some ex_int)))
  (bx_cons (sx_if (tx_cmp (op_eqA (u64 hr)) okEq (ex_v 5) (ex_v 4) (nomark _)) (bx_one (sx_set (i := 5) sc_law_beside.nd rfl (Or.inl rfl) (ex_bin op_addA okAdd (ex_slice sl_all okSl (ex_v 4) ox_none (ox_some (ex_un un_neg okNeg ex_int))) (ex_ix (ix_any (u1 hr)) okIx (ex_lst (ax_cons ex_str (ax_cons ex_str ax_nil))) (ex_callTy call_intA okInt rfl T.int (by decide +kernel) (ax_cons (ex_cmp (op_eqA (u64 hr)) okEq (ex_ix (ix_any (u1 hr)) okIx (ex_v 4) (ex_un un_neg okNeg ex_int) (fun _ _ => rfl)) ex_str (nomark _)) ax_nil)) (fun _ _ => rfl))))) bx_nil)
  (bx_cons (sx_set (i := 6) sc_law_beside.nd rfl (Or.inl rfl) (ex_ix (ix_any (u1 hr)) okIx (ex_lst (ax_cons ex_str (ax_cons ex_str (ax_cons ex_str (ax_cons ex_str (ax_cons ex_str ax_nil)))))) (cx_call k_law_take hr (by decide) (takes_of rfl rfl rfl rfl) rfl (ax_cons (ex_v 1) (ax_cons ex_int ax_nil))) (fun _ _ => rfl)))
  (bx_cons (sx_set (i := 7) sc_law_beside.nd rfl (Or.inl rfl) (ex_lst (ax_cons (ex_tup (ax_cons ex_str (ax_cons ex_non ax_nil))) (ax_cons (ex_tup (ax_cons ex_str (ax_cons ex_int ax_nil))) (ax_cons (ex_tup (ax_cons ex_str (ax_cons ex_int ax_nil))) (ax_cons (ex_tup (ax_cons ex_str (ax_cons ex_int ax_nil))) (ax_cons (ex_tup (ax_cons ex_str (ax_cons (ex_tup (ax_cons ex_int (ax_cons ex_int ax_nil))) ax_nil))) ax_nil)))))))
  (bx_cons (sx_asg (ex_ix (ix_any (u1 hr)) okIx (ex_v 7) (ex_bm PySem.F.plainAttrs_list PySem.F.slot_list_index PySem.F.type_list_index mt_index okIndex (ex_lst (ax_cons ex_str (ax_cons ex_str (ax_cons ex_str (ax_cons ex_str (ax_cons ex_str ax_nil)))))) (ax_cons (ex_v 6) ax_nil)) (fun _ _ => rfl)) (gx_tup rfl (gsx_cons (gx_name (i := 8) sc_law_beside.nd rfl (Or.inl rfl)) (gsx_cons (gx_name (i := 9) sc_law_beside.nd rfl (Or.inl rfl)) gsx_nil))))
  (bx_cons (sx_set (i := 10) sc_law_beside.nd rfl (Or.inl rfl) (ex_callTy call_list_of okList rfl T.list (by decide +kernel) (ax_cons (ex_v 3) ax_nil)))
  (bx_cons (sx_if (tx_cmp (op_eqA (u64 hr)) okEq (cx_call k_law_take hr (by decide) (takes_of rfl rfl rfl rfl) rfl (ax_cons (ex_v 1) (ax_cons ex_int ax_nil))) ex_int (nomark _)) (bx_cons (sx_set (i := 10) sc_law_beside.nd rfl (Or.inl rfl) (ex_bin op_addA okAdd (cx_call k_law_closed hr (by decide) (takes_of rfl rfl rfl rfl) rfl (ax_cons (ex_v 10) (ax_cons ex_int ax_nil))) (ex_lst (ax_cons (ex_tup (ax_cons ex_str (ax_cons ex_int (ax_cons (ex_v 5) (ax_cons (ex_v 8) (ax_cons (ex_v 9) ax_nil)))))) ax_nil))))
  (bx_one (sx_if (tx_cmp (op_eqA (u64 hr)) okEq (cx_call k_law_take hr (by decide) (takes_of rfl rfl rfl rfl) rfl (ax_cons (ex_v 1) (ax_cons ex_int ax_nil))) ex_int (nomark _)) (bx_one (sx_expr (ex_bm PySem.F.plainAttrs_list PySem.F.slot_list_append PySem.F.type_list_append mt_append okAppend (ex_v 10) (ax_cons (ex_tup (ax_cons ex_str (ax_cons ex_int (ax_cons (ex_ix (ix_any (u1 hr)) okIx (ex_lst (ax_cons ex_str (ax_cons ex_int ax_nil))) (ex_callTy call_intA okInt rfl T.int (by decide +kernel) (ax_cons (ex_cmp (op_neA (u64 hr)) okNe (ex_v 8) ex_str (nomark _)) ax_nil)) (fun _ _ => rfl)) ax_nil)))) ax_nil)))) bx_nil))) bx_nil)
  (bx_one (sx_ret (ex_tup (ax_cons (ex_callTy call_tuple_of okTuple rfl T.tuple (by decide +kernel) (ax_cons (ex_callB (call_sortedX rfl (u64 hr)) okSorted rfl T.sorted (by decide +kernel) (ax_cons (ex_lst (ax_cons (ex_ix (ix_any (u1 hr)) okIx (ex_v 2) ex_int (fun _ _ => rfl)) (ax_cons (ex_tup (ax_cons (ex_v 5) (ax_cons (ex_v 6) ax_nil))) ax_nil))) ax_nil)) ax_nil)) (ax_cons (ex_v 10) ax_nil))))))))))))))
abbrev s_law_more : Stmt := topS 39
theorem sc_law_more : FnScope ["events", "name", "hand", "worth", "ended", "found"] ["events", "name", "hand", "worth", "ended"] (defScope s_law_more) := ⟨rfl, rfl, rfl, by decide +kernel, rfl, by decide +kernel, by decide +kernel⟩
theorem ok_law_more (T : Txt K w mg) (F : FunAt K mg "_law_more" s_law_more ["events", "name", "hand", "worth", "ended"]) (k_law_closed : Cal P w K mg base "_law_closed" 1 2 m_law_closed) : Cal P w K mg base "_law_more" 2 5 m_law_more :=
  cal_of (N := ["events", "name", "hand", "worth", "ended", "found"]) F sc_law_more fun f cdv A outer s H E hr =>
  (bx_cons (sx_set (i := 5) sc_law_more.nd rfl (Or.inl rfl) (ex_bin op_addA okAdd (cx_call k_law_closed hr (by decide) (takes_of rfl rfl rfl rfl) rfl (ax_cons (ex_v 0) (ax_cons (ex_v 2) ax_nil))) (ex_lst (ax_cons (ex_tup (ax_cons ex_str (ax_cons (ex_v 2) (ax_cons (ex_v 1) (ax_cons ex_str (ax_cons (ex_v 3) ax_nil)))))) ax_nil))))
  (bx_cons (sx_if (tx_val (ex_v 4)) (bx_one (sx_expr (ex_bm PySem.F.plainAttrs_list PySem.F.slot_list_append PySem.F.type_list_append mt_append okAppend (ex_v 5) (ax_cons (ex_tup (ax_cons ex_str (ax_cons (ex_v 2) (ax_cons ex_str ax_nil)))) ax_nil)))) bx_nil)
  (bx_one (sx_ret (ex_v 5)))))
abbrev s_law_turned : Stmt := topS 41
theorem sc_law_turned : FnScope ["tale", "row", "things", "events", "name", "writes", "reads", "kind", "ended", "used", "fresh", "writer", "event", "one"] ["tale", "row"] (defScope s_law_turned) := ⟨rfl, rfl, rfl, by decide +kernel, rfl, by decide +kernel, by decide +kernel⟩
theorem ok_law_turned (T : Txt K w mg) (F : FunAt K mg "_law_turned" s_law_turned ["tale", "row"]) (k_law_answered : Cal P w K mg base "_law_answered" 2 3 m_law_answered) (k_law_begins : Cal P w K mg base "_law_begins" 1 2 m_law_begins) (k_law_beside : Cal P w K mg base "_law_beside" 2 2 m_law_beside) (k_law_more : Cal P w K mg base "_law_more" 2 5 m_law_more) (k_law_take : Cal P w K mg base "_law_take" 1 2 m_law_take) : Cal P w K mg base "_law_turned" 3 2 m_law_turned :=
  cal_of (N := ["tale", "row", "things", "events", "name", "writes", "reads", "kind", "ended", "used", "fresh", "writer", "event", "one"]) F sc_law_turned fun f cdv A outer s H E hr =>
  (bx_cons (sx_asg (ex_v 0) (gx_tup rfl (gsx_cons (gx_name (i := 2) sc_law_turned.nd rfl (Or.inl rfl)) (gsx_cons (gx_name (i := 3) sc_law_turned.nd rfl (Or.inl rfl)) gsx_nil))))
  (bx_cons (sx_set (i := 4) sc_law_turned.nd rfl (Or.inl rfl) (ex_ix (ix_any (u1 hr)) okIx (ex_ix (ix_any (u1 hr)) okIx (ex_v 2) ex_int (fun _ _ => rfl)) ex_int (fun _ _ => rfl)))
  (bx_cons (sx_set (i := 5) sc_law_turned.nd rfl (Or.inl rfl) (cx_call k_law_begins hr (by decide) (takes_of rfl rfl rfl rfl) rfl (ax_cons (ex_v 3) (ax_cons ex_str ax_nil))))
  (bx_cons (sx_set (i := 6) sc_law_turned.nd rfl (Or.inl rfl) (cx_call k_law_begins hr (by decide) (takes_of rfl rfl rfl rfl) rfl (ax_cons (ex_v 3) (ax_cons ex_str ax_nil))))
  (bx_cons (sx_set (i := 7) sc_law_turned.nd rfl (Or.inl rfl) (cx_call k_law_take hr (by decide) (takes_of rfl rfl rfl rfl) rfl (ax_cons (ex_v 1) (ax_cons ex_int ax_nil))))
  (bx_cons (sx_set (i := 8) sc_law_turned.nd rfl (Or.inl rfl) (ex_cmp (op_eqA (u64 hr)) okEq (cx_call k_law_take hr (by decide) (takes_of rfl rfl rfl rfl) rfl (ax_cons (ex_v 1) (ax_cons ex_int ax_nil))) ex_int (nomark _)))
  (bx_cons (sx_set (i := 9) sc_law_turned.nd rfl (Or.inr rfl) (ex_lc (own := [("event", 12)]) (c := (Sum.inl 12)) rfl sc_law_turned.nd (it_any (ex_v 3)) (blkOk_at (N1 := ["tale", "row", "things", "events", "name", "writes", "reads", "kind", "ended", "used", "fresh", "writer", "event", "one"]) (sc1 := defScope s_law_turned) rfl rfl (by decide +kernel)) (fun _ _ _ _ _ => (pg_name (i := 12) sc_law_turned.nd rfl (Or.inl rfl))) (fun _ _ _ _ _ => (txs_one (tx_cmp (op_eqA (u64 hr)) okEq (ex_ix (ix_any (u1 hr)) okIx (ex_v 12) ex_int (fun _ _ => rfl)) ex_str (nomark _)))) (fun _ _ _ _ _ => (ex_ix (ix_any (u1 hr)) okIx (ex_v 12) ex_int (fun _ _ => rfl)))))
  (bx_cons (sx_set (i := 10) sc_law_turned.nd rfl (Or.inl rfl) (ex_ix (ix_any (u1 hr)) okIx (ex_lc (own := [("one", 13)]) (c := (Sum.inl 13)) rfl sc_law_turned.nd (ix_range2 rfl T.range (ax_cons ex_int (ax_cons ex_int ax_nil))) (blkOk_at (N1 := ["tale", "row", "things", "events", "name", "writes", "reads", "kind", "ended", "used", "fresh", "writer", "event", "one"]) (sc1 := defScope s_law_turned) rfl rfl (by decide +kernel)) (fun _ _ _ _ _ => (pg_name (i := 13) sc_law_turned.nd rfl (Or.inl rfl))) (fun _ _ _ _ _ => (txs_one (tx_cmp (op_notInA (u65 hr)) okNotIn (ex_v 13) (ex_v 9) (by with_unfolding_all rfl)))) (fun _ _ _ _ _ => (ex_v 13))) ex_int (fun _ _ => rfl)))
  (bx_cons (sx_set (i := 11) sc_law_turned.nd rfl (Or.inl rfl) ex_int)
  (bx_cons (sx_if (tx_cmp (op_neA (u64 hr)) okNe (ex_v 5) (ex_lst ax_nil) (nomark _)) (bx_one (sx_set (i := 11) sc_law_turned.nd rfl (Or.inl rfl) (ex_ix (ix_any (u1 hr)) okIx (ex_ix (ix_any (u1 hr)) okIx (ex_v 3) (ex_ix (ix_any (u1 hr)) okIx (ex_v 5) ex_int (fun _ _ => rfl)) (fun _ _ => rfl)) ex_int (fun _ _ => rfl)))) bx_nil)
  (bx_cons (sx_if (tx_w (wx_and (tx_cmp (op_eqA (u64 hr)) okEq (ex_v 7) ex_int (nomark _)) (wx_and1 (tx_cmp (op_neA (u64 hr)) okNe (ex_v 5) (ex_lst ax_nil) (nomark _))))) (bx_one (sx_ret (ex_tup (ax_cons (ex_v 2) (ax_cons (cx_call k_law_more hr (by decide) (takes_of rfl rfl rfl rfl) rfl (ax_cons (ex_v 3) (ax_cons (ex_v 4) (ax_cons (ex_bin op_mod okMod (ex_bin op_addA okAdd (ex_bin op_addA okAdd (ex_v 11) ex_int) (cx_call k_law_take hr (by decide) (takes_of rfl rfl rfl rfl) rfl (ax_cons (ex_v 1) (ax_cons ex_int ax_nil)))) ex_int) (ax_cons (ex_v 10) (ax_cons (ex_v 8) ax_nil)))))) ax_nil))))) bx_nil)
  (bx_cons (sx_if (tx_w (wx_and (tx_cmp (op_eqA (u64 hr)) okEq (ex_v 7) ex_int (nomark _)) (wx_and1 (tx_cmp (op_neA (u64 hr)) okNe (ex_v 5) (ex_lst ax_nil) (nomark _))))) (bx_one (sx_ret (ex_tup (ax_cons (ex_v 2) (ax_cons (cx_call k_law_more hr (by decide) (takes_of rfl rfl rfl rfl) rfl (ax_cons (ex_v 3) (ax_cons (ex_v 4) (ax_cons (ex_v 11) (ax_cons (ex_ix (ix_any (u1 hr)) okIx (ex_ix (ix_any (u1 hr)) okIx (ex_v 3) (ex_ix (ix_any (u1 hr)) okIx (ex_v 5) (cx_call k_law_take hr (by decide) (takes_of rfl rfl rfl rfl) rfl (ax_cons (ex_v 1) (ax_cons (ex_callB call_lenA okLen rfl T.len (by decide +kernel) (ax_cons (ex_v 5) ax_nil)) ax_nil))) (fun _ _ => rfl)) (fun _ _ => rfl)) ex_int (fun _ _ => rfl)) (ax_cons (ex_v 8) ax_nil)))))) ax_nil))))) bx_nil)
  (bx_cons (sx_if (tx_cmp (op_eqA (u64 hr)) okEq (ex_v 7) ex_int (nomark _)) (bx_one (sx_ret (ex_tup (ax_cons (ex_v 2) (ax_cons (cx_call k_law_more hr (by decide) (takes_of rfl rfl rfl rfl) rfl (ax_cons (ex_v 3) (ax_cons (ex_v 4) (ax_cons (ex_v 11) (ax_cons ex_int (ax_cons (ex_v 8) ax_nil)))))) ax_nil))))) bx_nil)
  (bx_cons (sx_if (tx_w (wx_and (tx_cmp (op_eqA (u64 hr)) okEq (ex_v 7) ex_int (nomark _)) (wx_and1 (tx_cmp (op_neA (u64 hr)) okNe (ex_v 5) (ex_lst ax_nil) (nomark _))))) (bx_one (sx_ret (ex_tup (ax_cons (ex_v 2) (ax_cons (cx_call k_law_answered hr (by decide) (takes_of rfl rfl rfl rfl) rfl (ax_cons (ex_v 3) (ax_cons (ex_ix (ix_any (u1 hr)) okIx (ex_v 5) (cx_call k_law_take hr (by decide) (takes_of rfl rfl rfl rfl) rfl (ax_cons (ex_v 1) (ax_cons (ex_callB call_lenA okLen rfl T.len (by decide +kernel) (ax_cons (ex_v 5) ax_nil)) ax_nil))) (fun _ _ => rfl)) (ax_cons (ex_ix (ix_any (u1 hr)) okIx (ex_lst (ax_cons ex_int (ax_cons ex_str (ax_cons ex_int ax_nil)))) (cx_call k_law_take hr (by decide) (takes_of rfl rfl rfl rfl) rfl (ax_cons (ex_v 1) (ax_cons ex_int ax_nil))) (fun _ _ => rfl)) ax_nil)))) ax_nil))))) bx_nil)
  (bx_cons (sx_if (tx_w (wx_and (tx_cmp (op_eqA (u64 hr)) okEq (ex_v 7) ex_int (nomark _)) (wx_and1 (tx_cmp (op_neA (u64 hr)) okNe (ex_v 6) (ex_lst ax_nil) (nomark _))))) (bx_one (sx_ret (ex_tup (ax_cons (ex_v 2) (ax_cons (cx_call k_law_answered hr (by decide) (takes_of rfl rfl rfl rfl) rfl (ax_cons (ex_v 3) (ax_cons (ex_ix (ix_any (u1 hr)) okIx (ex_v 6) (cx_call k_law_take hr (by decide) (takes_of rfl rfl rfl rfl) rfl (ax_cons (ex_v 1) (ax_cons (ex_callB call_lenA okLen rfl T.len (by decide +kernel) (ax_cons (ex_v 6) ax_nil)) ax_nil))) (fun _ _ => rfl)) (ax_cons (ex_ix (ix_any (u1 hr)) okIx (ex_lst (ax_cons ex_str (ax_cons ex_str ax_nil))) (cx_call k_law_take hr (by decide) (takes_of rfl rfl rfl rfl) rfl (ax_cons (ex_v 1) (ax_cons ex_int ax_nil))) (fun _ _ => rfl)) ax_nil)))) ax_nil))))) bx_nil)
  (bx_cons (sx_if (tx_cmp (op_eqA (u64 hr)) okEq (ex_v 7) ex_int (nomark _)) (bx_one (sx_ret (cx_call k_law_beside hr (by decide) (takes_of rfl rfl rfl rfl) rfl (ax_cons (ex_v 0) (ax_cons (ex_v 1) ax_nil))))) bx_nil)
  (bx_cons (sx_if (tx_cmp (op_eqA (u64 hr)) okEq (ex_v 7) ex_int (nomark _)) (bx_one (sx_ret (ex_tup (ax_cons (ex_tup (ax_cons (ex_tup (ax_cons (ex_v 4) (ax_cons ex_str ax_nil))) ax_nil)) (ax_cons (ex_v 3) ax_nil))))) bx_nil)
  (bx_one (sx_ret ex_non)))))))))))))))))))
abbrev s_law : Stmt := topS 44
theorem sc_law : FnScope ["script", "tale", "row", "turned", "which"] ["script"] (defScope s_law) := ⟨rfl, rfl, rfl, by decide +kernel, rfl, by decide +kernel, by decide +kernel⟩
theorem fn_law {f : Addr} {fd : FuncData} (T : Txt K w mg) (F : Fun K "law" "law" s_law f fd) (k_law_asked : Cal P w K mg base "_law_asked" 5 2 m_law_asked) (k_law_cell_at : Cal P w K mg base "_law_cell_at" 1 2 m_law_cell_at) (k_law_refused : Cal P w K mg base "_law_refused" 6 2 m_law_refused) (k_law_stream : Cal P w K mg base "_law_stream" 1 2 m_law_stream) (k_law_tale : Cal P w K mg base "_law_tale" 5 2 m_law_tale) (k_law_turned : Cal P w K mg base "_law_turned" 3 2 m_law_turned) : FnOk P w K mg base (L2.CX P w) 7 f fd ["script"] (spM K mg 1 m_law) :=
  def_ok (N := ["script", "tale", "row", "turned", "which"]) F sc_law fun cdv A outer s H E hr =>
  (bx_cons (sx_set (i := 1) sc_law.nd rfl (Or.inl rfl) (cx_call k_law_tale hr (by decide) (takes_of rfl rfl rfl rfl) rfl (ax_cons (ex_bin op_addA okAdd (ex_lst (ax_cons (cx_call k_law_cell_at hr (by decide) (takes_of rfl rfl rfl rfl) rfl (ax_cons (ex_v 0) (ax_cons ex_int ax_nil))) ax_nil)) (ex_slice sl_all okSl (ex_v 0) (ox_some ex_int) ox_none)) (ax_cons ex_int ax_nil))))
  (bx_cons (sx_set (i := 2) sc_law.nd rfl (Or.inl rfl) (cx_call k_law_stream hr (by decide) (takes_of rfl rfl rfl rfl) rfl (ax_cons (ex_bin op_fdivW okDiv (cx_call k_law_cell_at hr (by decide) (takes_of rfl rfl rfl rfl) rfl (ax_cons (ex_v 0) (ax_cons ex_int ax_nil))) ex_int) (ax_cons (ex_bin op_mod okMod (cx_call k_law_cell_at hr (by decide) (takes_of rfl rfl rfl rfl) rfl (ax_cons (ex_v 0) (ax_cons ex_int ax_nil))) ex_int) ax_nil))))
  (bx_cons (sx_set (i := 3) sc_law.nd rfl (Or.inl rfl) (cx_call k_law_turned hr (by decide) (takes_of rfl rfl rfl rfl) rfl (ax_cons (ex_v 1) (ax_cons (ex_v 2) ax_nil))))
  (bx_cons (sx_for (passes_of rfl) rfl (ix_range1 rfl T.range (ax_cons ex_int ax_nil)) (gx_name (i := 4) sc_law.nd rfl (Or.inl rfl))
  (bx_cons (sx_expr (cx_call k_law_asked hr (by decide) (takes_of rfl rfl rfl rfl) rfl (ax_cons (ex_v 1) (ax_cons (ex_v 4) ax_nil))))
  (bx_cons (sx_if (tx_not (tx_val (cx_call k_law_refused hr (by decide) (takes_of rfl rfl rfl rfl) rfl (ax_cons (ex_tup (ax_cons (ex_tup ax_nil) (ax_cons (ex_tup ax_nil) ax_nil))) (ax_cons (ex_v 4) ax_nil))))) (bx_one (sx_ret ex_bl)) bx_nil)
  (bx_one (sx_if (tx_w (wx_and (tx_cmp (op_notN) okNotN (ex_v 3) ex_non (nomark _)) (wx_and1 (tx_not (tx_val (cx_call k_law_refused hr (by decide) (takes_of rfl rfl rfl rfl) rfl (ax_cons (ex_tup (ax_cons (ex_ix (ix_any (u1 hr)) okIx (ex_v 3) ex_int (fun _ _ => rfl)) (ax_cons (ex_callTy call_tuple_of okTuple rfl T.tuple (by decide +kernel) (ax_cons (ex_ix (ix_any (u1 hr)) okIx (ex_v 3) ex_int (fun _ _ => rfl)) ax_nil)) ax_nil))) (ax_cons (ex_v 4) ax_nil)))))))) (bx_one (sx_ret ex_bl)) bx_nil)))))
  (bx_one (sx_ret ex_bl))))))
end
theorem all_mk {l : PySem.W.OpenLaw} {w : World} {K : Fg} {h : Heap} {mg : Mg} {fa : Addr} (X : K.In h) (G : h.Ns mainGlobals mg) (hfa : mg "law" = some (.ref fa))
        {f0 : Addr} {od0 an0 : Option Addr} {sl0 : Array (Option Value)} {oc0 kV0 dc0 pm0 cd0 ct0 : Value}
    {f1 : Addr} {od1 an1 : Option Addr} {sl1 : Array (Option Value)} {oc1 kV1 dc1 pm1 cd1 ct1 : Value}
    {f2 : Addr} {od2 an2 : Option Addr} {sl2 : Array (Option Value)} {oc2 kV2 dc2 pm2 cd2 ct2 : Value}
    {f3 : Addr} {od3 an3 : Option Addr} {sl3 : Array (Option Value)} {oc3 kV3 dc3 pm3 cd3 ct3 : Value}
    {f4 : Addr} {od4 an4 : Option Addr} {sl4 : Array (Option Value)} {oc4 kV4 dc4 pm4 cd4 ct4 : Value}
    {f5 : Addr} {od5 an5 : Option Addr} {sl5 : Array (Option Value)} {oc5 kV5 dc5 pm5 cd5 ct5 : Value}
    {f6 : Addr} {od6 an6 : Option Addr} {sl6 : Array (Option Value)} {oc6 kV6 dc6 pm6 cd6 ct6 : Value}
    {f7 : Addr} {od7 an7 : Option Addr} {sl7 : Array (Option Value)} {oc7 kV7 dc7 pm7 cd7 ct7 : Value}
    {f8 : Addr} {od8 an8 : Option Addr} {sl8 : Array (Option Value)} {oc8 kV8 dc8 pm8 cd8 ct8 : Value}
    {f9 : Addr} {od9 an9 : Option Addr} {sl9 : Array (Option Value)} {oc9 kV9 dc9 pm9 cd9 ct9 : Value}
    {f10 : Addr} {od10 an10 : Option Addr} {sl10 : Array (Option Value)} {oc10 kV10 dc10 pm10 cd10 ct10 : Value}
    {f11 : Addr} {od11 an11 : Option Addr} {sl11 : Array (Option Value)} {oc11 kV11 dc11 pm11 cd11 ct11 : Value}
    {f12 : Addr} {od12 an12 : Option Addr} {sl12 : Array (Option Value)} {oc12 kV12 dc12 pm12 cd12 ct12 : Value}
    {f13 : Addr} {od13 an13 : Option Addr} {sl13 : Array (Option Value)} {oc13 kV13 dc13 pm13 cd13 ct13 : Value}
    {f14 : Addr} {od14 an14 : Option Addr} {sl14 : Array (Option Value)} {oc14 kV14 dc14 pm14 cd14 ct14 : Value}
    {f15 : Addr} {od15 an15 : Option Addr} {sl15 : Array (Option Value)} {oc15 kV15 dc15 pm15 cd15 ct15 : Value}
    {f16 : Addr} {od16 an16 : Option Addr} {sl16 : Array (Option Value)} {oc16 kV16 dc16 pm16 cd16 ct16 : Value}
    {f17 : Addr} {od17 an17 : Option Addr} {sl17 : Array (Option Value)} {oc17 kV17 dc17 pm17 cd17 ct17 : Value}
    {f18 : Addr} {od18 an18 : Option Addr} {sl18 : Array (Option Value)} {oc18 kV18 dc18 pm18 cd18 ct18 : Value}
    {f19 : Addr} {od19 an19 : Option Addr} {sl19 : Array (Option Value)} {oc19 kV19 dc19 pm19 cd19 ct19 : Value}
    {f20 : Addr} {od20 an20 : Option Addr} {sl20 : Array (Option Value)} {oc20 kV20 dc20 pm20 cd20 ct20 : Value}
    {f21 : Addr} {od21 an21 : Option Addr} {sl21 : Array (Option Value)} {oc21 kV21 dc21 pm21 cd21 ct21 : Value}
    {f22 : Addr} {od22 an22 : Option Addr} {sl22 : Array (Option Value)} {oc22 kV22 dc22 pm22 cd22 ct22 : Value}
    {f23 : Addr} {od23 an23 : Option Addr} {sl23 : Array (Option Value)} {oc23 kV23 dc23 pm23 cd23 ct23 : Value}
    {f24 : Addr} {od24 an24 : Option Addr} {sl24 : Array (Option Value)} {oc24 kV24 dc24 pm24 cd24 ct24 : Value}
    {f25 : Addr} {od25 an25 : Option Addr} {sl25 : Array (Option Value)} {oc25 kV25 dc25 pm25 cd25 ct25 : Value}
    {f26 : Addr} {od26 an26 : Option Addr} {sl26 : Array (Option Value)} {oc26 kV26 dc26 pm26 cd26 ct26 : Value}
    {t_FIRST_BEGIN : Tok}
    {t_FIRST_END : Tok}
    {C_NoDealings : Addr}
    {C_NoDeed : Addr}
    {C_NoHand : Addr}
    {C_NoOrder : Addr}
    {C_NoPlan : Addr}
    {C_NoRow : Addr}
    {C_NoStrictness : Addr}
    {C_NoTale : Addr}
    {C_NoThing : Addr}
    {C_NotPlain : Addr}
    {C_TaleError : Addr}
        (a0 : PySem.W.nsIn K mainGlobals "last_written" = some (some (.ref f0)))
    (l0 : K.lookup f0 = some ⟨oc0, od0, .func (PySem.W.fnOf "last_written" "last_written" (defArgs s_last_written) (defBody s_last_written) (defScope s_last_written) .none kV0 dc0 pm0 an0 cd0 ct0), sl0⟩)
    (c0 : PySem.W.codeIn K cd0 "last_written" = true)
    (k0 : PySem.W.keepIn K (.ref f0) = true)
    (a1 : PySem.W.nsIn K mainGlobals "written_beside" = some (some (.ref f1)))
    (l1 : K.lookup f1 = some ⟨oc1, od1, .func (PySem.W.fnOf "written_beside" "written_beside" (defArgs s_written_beside) (defBody s_written_beside) (defScope s_written_beside) .none kV1 dc1 pm1 an1 cd1 ct1), sl1⟩)
    (c1 : PySem.W.codeIn K cd1 "written_beside" = true)
    (k1 : PySem.W.keepIn K (.ref f1) = true)
    (a2 : PySem.W.nsIn K mainGlobals "deeds" = some (some (.ref f2)))
    (l2 : K.lookup f2 = some ⟨oc2, od2, .func (PySem.W.fnOf "deeds" "deeds" (defArgs s_deeds) (defBody s_deeds) (defScope s_deeds) .none kV2 dc2 pm2 an2 cd2 ct2), sl2⟩)
    (c2 : PySem.W.codeIn K cd2 "deeds" = true)
    (k2 : PySem.W.keepIn K (.ref f2) = true)
    (a3 : PySem.W.nsIn K mainGlobals "plain_deeds" = some (some (.ref f3)))
    (l3 : K.lookup f3 = some ⟨oc3, od3, .func (PySem.W.fnOf "plain_deeds" "plain_deeds" (defArgs s_plain_deeds) (defBody s_plain_deeds) (defScope s_plain_deeds) .none kV3 dc3 pm3 an3 cd3 ct3), sl3⟩)
    (c3 : PySem.W.codeIn K cd3 "plain_deeds" = true)
    (k3 : PySem.W.keepIn K (.ref f3) = true)
    (a4 : PySem.W.nsIn K mainGlobals "written_by_one" = some (some (.ref f4)))
    (l4 : K.lookup f4 = some ⟨oc4, od4, .func (PySem.W.fnOf "written_by_one" "written_by_one" (defArgs s_written_by_one) (defBody s_written_by_one) (defScope s_written_by_one) .none kV4 dc4 pm4 an4 cd4 ct4), sl4⟩)
    (c4 : PySem.W.codeIn K cd4 "written_by_one" = true)
    (k4 : PySem.W.keepIn K (.ref f4) = true)
    (a5 : PySem.W.nsIn K mainGlobals "is_regular" = some (some (.ref f5)))
    (l5 : K.lookup f5 = some ⟨oc5, od5, .func (PySem.W.fnOf "is_regular" "is_regular" (defArgs s_is_regular) (defBody s_is_regular) (defScope s_is_regular) .none kV5 dc5 pm5 an5 cd5 ct5), sl5⟩)
    (c5 : PySem.W.codeIn K cd5 "is_regular" = true)
    (k5 : PySem.W.keepIn K (.ref f5) = true)
    (a6 : PySem.W.nsIn K mainGlobals "is_safe" = some (some (.ref f6)))
    (l6 : K.lookup f6 = some ⟨oc6, od6, .func (PySem.W.fnOf "is_safe" "is_safe" (defArgs s_is_safe) (defBody s_is_safe) (defScope s_is_safe) .none kV6 dc6 pm6 an6 cd6 ct6), sl6⟩)
    (c6 : PySem.W.codeIn K cd6 "is_safe" = true)
    (k6 : PySem.W.keepIn K (.ref f6) = true)
    (a7 : PySem.W.nsIn K mainGlobals "turn_about" = some (some (.ref f7)))
    (l7 : K.lookup f7 = some ⟨oc7, od7, .func (PySem.W.fnOf "turn_about" "turn_about" (defArgs s_turn_about) (defBody s_turn_about) (defScope s_turn_about) .none kV7 dc7 pm7 an7 cd7 ct7), sl7⟩)
    (c7 : PySem.W.codeIn K cd7 "turn_about" = true)
    (k7 : PySem.W.keepIn K (.ref f7) = true)
    (a8 : PySem.W.nsIn K mainGlobals "_law_asked" = some (some (.ref f8)))
    (l8 : K.lookup f8 = some ⟨oc8, od8, .func (PySem.W.fnOf "_law_asked" "_law_asked" (defArgs s_law_asked) (defBody s_law_asked) (defScope s_law_asked) .none kV8 dc8 pm8 an8 cd8 ct8), sl8⟩)
    (c8 : PySem.W.codeIn K cd8 "_law_asked" = true)
    (k8 : PySem.W.keepIn K (.ref f8) = true)
    (a9 : PySem.W.nsIn K mainGlobals "_law_cell_at" = some (some (.ref f9)))
    (l9 : K.lookup f9 = some ⟨oc9, od9, .func (PySem.W.fnOf "_law_cell_at" "_law_cell_at" (defArgs s_law_cell_at) (defBody s_law_cell_at) (defScope s_law_cell_at) .none kV9 dc9 pm9 an9 cd9 ct9), sl9⟩)
    (c9 : PySem.W.codeIn K cd9 "_law_cell_at" = true)
    (k9 : PySem.W.keepIn K (.ref f9) = true)
    (a10 : PySem.W.nsIn K mainGlobals "_law_refused" = some (some (.ref f10)))
    (l10 : K.lookup f10 = some ⟨oc10, od10, .func (PySem.W.fnOf "_law_refused" "_law_refused" (defArgs s_law_refused) (defBody s_law_refused) (defScope s_law_refused) .none kV10 dc10 pm10 an10 cd10 ct10), sl10⟩)
    (c10 : PySem.W.codeIn K cd10 "_law_refused" = true)
    (k10 : PySem.W.keepIn K (.ref f10) = true)
    (a11 : PySem.W.nsIn K mainGlobals "_law_stream" = some (some (.ref f11)))
    (l11 : K.lookup f11 = some ⟨oc11, od11, .func (PySem.W.fnOf "_law_stream" "_law_stream" (defArgs s_law_stream) (defBody s_law_stream) (defScope s_law_stream) .none kV11 dc11 pm11 an11 cd11 ct11), sl11⟩)
    (c11 : PySem.W.codeIn K cd11 "_law_stream" = true)
    (k11 : PySem.W.keepIn K (.ref f11) = true)
    (a12 : PySem.W.nsIn K mainGlobals "_law_take" = some (some (.ref f12)))
    (l12 : K.lookup f12 = some ⟨oc12, od12, .func (PySem.W.fnOf "_law_take" "_law_take" (defArgs s_law_take) (defBody s_law_take) (defScope s_law_take) .none kV12 dc12 pm12 an12 cd12 ct12), sl12⟩)
    (c12 : PySem.W.codeIn K cd12 "_law_take" = true)
    (k12 : PySem.W.keepIn K (.ref f12) = true)
    (a13 : PySem.W.nsIn K mainGlobals "_law_worth" = some (some (.ref f13)))
    (l13 : K.lookup f13 = some ⟨oc13, od13, .func (PySem.W.fnOf "_law_worth" "_law_worth" (defArgs s_law_worth) (defBody s_law_worth) (defScope s_law_worth) .none kV13 dc13 pm13 an13 cd13 ct13), sl13⟩)
    (c13 : PySem.W.codeIn K cd13 "_law_worth" = true)
    (k13 : PySem.W.keepIn K (.ref f13) = true)
    (a14 : PySem.W.nsIn K mainGlobals "_law_answer" = some (some (.ref f14)))
    (l14 : K.lookup f14 = some ⟨oc14, od14, .func (PySem.W.fnOf "_law_answer" "_law_answer" (defArgs s_law_answer) (defBody s_law_answer) (defScope s_law_answer) .none kV14 dc14 pm14 an14 cd14 ct14), sl14⟩)
    (c14 : PySem.W.codeIn K cd14 "_law_answer" = true)
    (k14 : PySem.W.keepIn K (.ref f14) = true)
    (a15 : PySem.W.nsIn K mainGlobals "_law_fresh" = some (some (.ref f15)))
    (l15 : K.lookup f15 = some ⟨oc15, od15, .func (PySem.W.fnOf "_law_fresh" "_law_fresh" (defArgs s_law_fresh) (defBody s_law_fresh) (defScope s_law_fresh) .none kV15 dc15 pm15 an15 cd15 ct15), sl15⟩)
    (c15 : PySem.W.codeIn K cd15 "_law_fresh" = true)
    (k15 : PySem.W.keepIn K (.ref f15) = true)
    (a16 : PySem.W.nsIn K mainGlobals "_law_events" = some (some (.ref f16)))
    (l16 : K.lookup f16 = some ⟨oc16, od16, .func (PySem.W.fnOf "_law_events" "_law_events" (defArgs s_law_events) (defBody s_law_events) (defScope s_law_events) .none kV16 dc16 pm16 an16 cd16 ct16), sl16⟩)
    (c16 : PySem.W.codeIn K cd16 "_law_events" = true)
    (k16 : PySem.W.keepIn K (.ref f16) = true)
    (a17 : PySem.W.nsIn K mainGlobals "_law_name" = some (some (.ref f17)))
    (l17 : K.lookup f17 = some ⟨oc17, od17, .func (PySem.W.fnOf "_law_name" "_law_name" (defArgs s_law_name) (defBody s_law_name) (defScope s_law_name) .none kV17 dc17 pm17 an17 cd17 ct17), sl17⟩)
    (c17 : PySem.W.codeIn K cd17 "_law_name" = true)
    (k17 : PySem.W.keepIn K (.ref f17) = true)
    (a18 : PySem.W.nsIn K mainGlobals "_law_tale" = some (some (.ref f18)))
    (l18 : K.lookup f18 = some ⟨oc18, od18, .func (PySem.W.fnOf "_law_tale" "_law_tale" (defArgs s_law_tale) (defBody s_law_tale) (defScope s_law_tale) .none kV18 dc18 pm18 an18 cd18 ct18), sl18⟩)
    (c18 : PySem.W.codeIn K cd18 "_law_tale" = true)
    (k18 : PySem.W.keepIn K (.ref f18) = true)
    (a19 : PySem.W.nsIn K mainGlobals "_law_end_of" = some (some (.ref f19)))
    (l19 : K.lookup f19 = some ⟨oc19, od19, .func (PySem.W.fnOf "_law_end_of" "_law_end_of" (defArgs s_law_end_of) (defBody s_law_end_of) (defScope s_law_end_of) .none kV19 dc19 pm19 an19 cd19 ct19), sl19⟩)
    (c19 : PySem.W.codeIn K cd19 "_law_end_of" = true)
    (k19 : PySem.W.keepIn K (.ref f19) = true)
    (a20 : PySem.W.nsIn K mainGlobals "_law_answered" = some (some (.ref f20)))
    (l20 : K.lookup f20 = some ⟨oc20, od20, .func (PySem.W.fnOf "_law_answered" "_law_answered" (defArgs s_law_answered) (defBody s_law_answered) (defScope s_law_answered) .none kV20 dc20 pm20 an20 cd20 ct20), sl20⟩)
    (c20 : PySem.W.codeIn K cd20 "_law_answered" = true)
    (k20 : PySem.W.keepIn K (.ref f20) = true)
    (a21 : PySem.W.nsIn K mainGlobals "_law_begins" = some (some (.ref f21)))
    (l21 : K.lookup f21 = some ⟨oc21, od21, .func (PySem.W.fnOf "_law_begins" "_law_begins" (defArgs s_law_begins) (defBody s_law_begins) (defScope s_law_begins) .none kV21 dc21 pm21 an21 cd21 ct21), sl21⟩)
    (c21 : PySem.W.codeIn K cd21 "_law_begins" = true)
    (k21 : PySem.W.keepIn K (.ref f21) = true)
    (a22 : PySem.W.nsIn K mainGlobals "_law_closed" = some (some (.ref f22)))
    (l22 : K.lookup f22 = some ⟨oc22, od22, .func (PySem.W.fnOf "_law_closed" "_law_closed" (defArgs s_law_closed) (defBody s_law_closed) (defScope s_law_closed) .none kV22 dc22 pm22 an22 cd22 ct22), sl22⟩)
    (c22 : PySem.W.codeIn K cd22 "_law_closed" = true)
    (k22 : PySem.W.keepIn K (.ref f22) = true)
    (a23 : PySem.W.nsIn K mainGlobals "_law_beside" = some (some (.ref f23)))
    (l23 : K.lookup f23 = some ⟨oc23, od23, .func (PySem.W.fnOf "_law_beside" "_law_beside" (defArgs s_law_beside) (defBody s_law_beside) (defScope s_law_beside) .none kV23 dc23 pm23 an23 cd23 ct23), sl23⟩)
    (c23 : PySem.W.codeIn K cd23 "_law_beside" = true)
    (k23 : PySem.W.keepIn K (.ref f23) = true)
    (a24 : PySem.W.nsIn K mainGlobals "_law_more" = some (some (.ref f24)))
    (l24 : K.lookup f24 = some ⟨oc24, od24, .func (PySem.W.fnOf "_law_more" "_law_more" (defArgs s_law_more) (defBody s_law_more) (defScope s_law_more) .none kV24 dc24 pm24 an24 cd24 ct24), sl24⟩)
    (c24 : PySem.W.codeIn K cd24 "_law_more" = true)
    (k24 : PySem.W.keepIn K (.ref f24) = true)
    (a25 : PySem.W.nsIn K mainGlobals "_law_turned" = some (some (.ref f25)))
    (l25 : K.lookup f25 = some ⟨oc25, od25, .func (PySem.W.fnOf "_law_turned" "_law_turned" (defArgs s_law_turned) (defBody s_law_turned) (defScope s_law_turned) .none kV25 dc25 pm25 an25 cd25 ct25), sl25⟩)
    (c25 : PySem.W.codeIn K cd25 "_law_turned" = true)
    (k25 : PySem.W.keepIn K (.ref f25) = true)
    (a26 : PySem.W.nsIn K mainGlobals "law" = some (some (.ref f26)))
    (l26 : K.lookup f26 = some ⟨oc26, od26, .func (PySem.W.fnOf "law" "law" (defArgs s_law) (defBody s_law) (defScope s_law) .none kV26 dc26 pm26 an26 cd26 ct26), sl26⟩)
    (c26 : PySem.W.codeIn K cd26 "law" = true)
    (k26 : PySem.W.keepIn K (.ref f26) = true)
    (z_ValueError : PySem.W.nsIn K mainGlobals "ValueError" = some none)
    (z_enumerate : PySem.W.nsIn K mainGlobals "enumerate" = some none)
    (z_int : PySem.W.nsIn K mainGlobals "int" = some none)
    (z_isinstance : PySem.W.nsIn K mainGlobals "isinstance" = some none)
    (z_len : PySem.W.nsIn K mainGlobals "len" = some none)
    (z_list : PySem.W.nsIn K mainGlobals "list" = some none)
    (z_max : PySem.W.nsIn K mainGlobals "max" = some none)
    (z_range : PySem.W.nsIn K mainGlobals "range" = some none)
    (z_sorted : PySem.W.nsIn K mainGlobals "sorted" = some none)
    (z_str : PySem.W.nsIn K mainGlobals "str" = some none)
    (z_tuple : PySem.W.nsIn K mainGlobals "tuple" = some none)
    (g_FIRST_BEGIN : PySem.W.nsIn K mainGlobals "FIRST_BEGIN" = some (some (.int (-2) t_FIRST_BEGIN)))
    (g_FIRST_END : PySem.W.nsIn K mainGlobals "FIRST_END" = some (some (.int (-1) t_FIRST_END)))
    (g_NoDealings : PySem.W.nsIn K mainGlobals "NoDealings" = some (some (.ref C_NoDealings)))
    (x_NoDealings : PySem.W.excIn K C_NoDealings veB "ValueError.__new__" = true)
    (y_NoDealings : PySem.W.keepIn K (.ref C_NoDealings) = true)
    (w_NoDealings : PySem.W.subIn K (.ref C_NoDealings) (.type "BaseException") = some true)
    (v_NoDealings : PySem.W.typeIn K (.ref C_NoDealings) = some (.type "type"))
    (g_NoDeed : PySem.W.nsIn K mainGlobals "NoDeed" = some (some (.ref C_NoDeed)))
    (x_NoDeed : PySem.W.excIn K C_NoDeed veB "ValueError.__new__" = true)
    (y_NoDeed : PySem.W.keepIn K (.ref C_NoDeed) = true)
    (w_NoDeed : PySem.W.subIn K (.ref C_NoDeed) (.type "BaseException") = some true)
    (v_NoDeed : PySem.W.typeIn K (.ref C_NoDeed) = some (.type "type"))
    (g_NoHand : PySem.W.nsIn K mainGlobals "NoHand" = some (some (.ref C_NoHand)))
    (x_NoHand : PySem.W.excIn K C_NoHand veB "ValueError.__new__" = true)
    (y_NoHand : PySem.W.keepIn K (.ref C_NoHand) = true)
    (w_NoHand : PySem.W.subIn K (.ref C_NoHand) (.type "BaseException") = some true)
    (v_NoHand : PySem.W.typeIn K (.ref C_NoHand) = some (.type "type"))
    (g_NoOrder : PySem.W.nsIn K mainGlobals "NoOrder" = some (some (.ref C_NoOrder)))
    (x_NoOrder : PySem.W.excIn K C_NoOrder veB "ValueError.__new__" = true)
    (y_NoOrder : PySem.W.keepIn K (.ref C_NoOrder) = true)
    (w_NoOrder : PySem.W.subIn K (.ref C_NoOrder) (.type "BaseException") = some true)
    (v_NoOrder : PySem.W.typeIn K (.ref C_NoOrder) = some (.type "type"))
    (g_NoPlan : PySem.W.nsIn K mainGlobals "NoPlan" = some (some (.ref C_NoPlan)))
    (x_NoPlan : PySem.W.excIn K C_NoPlan veB "ValueError.__new__" = true)
    (y_NoPlan : PySem.W.keepIn K (.ref C_NoPlan) = true)
    (w_NoPlan : PySem.W.subIn K (.ref C_NoPlan) (.type "BaseException") = some true)
    (v_NoPlan : PySem.W.typeIn K (.ref C_NoPlan) = some (.type "type"))
    (g_NoRow : PySem.W.nsIn K mainGlobals "NoRow" = some (some (.ref C_NoRow)))
    (x_NoRow : PySem.W.excIn K C_NoRow veB "ValueError.__new__" = true)
    (y_NoRow : PySem.W.keepIn K (.ref C_NoRow) = true)
    (w_NoRow : PySem.W.subIn K (.ref C_NoRow) (.type "BaseException") = some true)
    (v_NoRow : PySem.W.typeIn K (.ref C_NoRow) = some (.type "type"))
    (g_NoStrictness : PySem.W.nsIn K mainGlobals "NoStrictness" = some (some (.ref C_NoStrictness)))
    (x_NoStrictness : PySem.W.excIn K C_NoStrictness veB "ValueError.__new__" = true)
    (y_NoStrictness : PySem.W.keepIn K (.ref C_NoStrictness) = true)
    (w_NoStrictness : PySem.W.subIn K (.ref C_NoStrictness) (.type "BaseException") = some true)
    (v_NoStrictness : PySem.W.typeIn K (.ref C_NoStrictness) = some (.type "type"))
    (g_NoTale : PySem.W.nsIn K mainGlobals "NoTale" = some (some (.ref C_NoTale)))
    (x_NoTale : PySem.W.excIn K C_NoTale veB "ValueError.__new__" = true)
    (y_NoTale : PySem.W.keepIn K (.ref C_NoTale) = true)
    (w_NoTale : PySem.W.subIn K (.ref C_NoTale) (.type "BaseException") = some true)
    (v_NoTale : PySem.W.typeIn K (.ref C_NoTale) = some (.type "type"))
    (g_NoThing : PySem.W.nsIn K mainGlobals "NoThing" = some (some (.ref C_NoThing)))
    (x_NoThing : PySem.W.excIn K C_NoThing veB "ValueError.__new__" = true)
    (y_NoThing : PySem.W.keepIn K (.ref C_NoThing) = true)
    (w_NoThing : PySem.W.subIn K (.ref C_NoThing) (.type "BaseException") = some true)
    (v_NoThing : PySem.W.typeIn K (.ref C_NoThing) = some (.type "type"))
    (g_NotPlain : PySem.W.nsIn K mainGlobals "NotPlain" = some (some (.ref C_NotPlain)))
    (x_NotPlain : PySem.W.excIn K C_NotPlain veB "ValueError.__new__" = true)
    (y_NotPlain : PySem.W.keepIn K (.ref C_NotPlain) = true)
    (w_NotPlain : PySem.W.subIn K (.ref C_NotPlain) (.type "BaseException") = some true)
    (v_NotPlain : PySem.W.typeIn K (.ref C_NotPlain) = some (.type "type"))
    (g_TaleError : PySem.W.nsIn K mainGlobals "TaleError" = some (some (.ref C_TaleError)))
    (x_TaleError : PySem.W.excIn K C_TaleError veB "ValueError.__new__" = true)
    (y_TaleError : PySem.W.keepIn K (.ref C_TaleError) = true)
    (w_TaleError : PySem.W.subIn K (.ref C_TaleError) (.type "BaseException") = some true)
    (v_TaleError : PySem.W.typeIn K (.ref C_TaleError) = some (.type "type"))
    (d_TaleError : PySem.W.hasDictIn K C_TaleError = true)
    (s_NotPlain_TaleError : PySem.W.subIn K (.ref C_NotPlain) (.ref C_TaleError) = some true)
    (x0_NotPlain : PySem.W.findIn K (.ref C_NotPlain) "__getattribute__" = some (some (.builtin "BaseException.__getattribute__")))
    (x1_NotPlain : PySem.W.findIn K (.ref C_NotPlain) "__getattr__" = some none)
    (x2_NotPlain : PySem.W.subIn K (.ref C_NotPlain) (.type "BaseException") = some true)
    (x3_NotPlain : PySem.W.hasDictIn K C_NotPlain = true)
    (x4_NotPlain : PySem.W.findIn K (.ref C_NotPlain) "__class__" = some (some (.builtin "object.__class__")))
    (x5_NotPlain : PySem.W.specialIn K (.builtin "object.__class__") "__get__" = some (some (.builtin "getset_descriptor.__get__")))
    (x6_NotPlain : PySem.W.takesIn K (.builtin "object.__class__") = some true)
    (x7_NotPlain : PySem.W.mroIn K C_NotPlain (.type "object") = some true)
    (d_NotPlain : PySem.W.hasDictIn K C_NotPlain = true)
    (s_NotPlain_NotPlain : PySem.W.subIn K (.ref C_NotPlain) (.ref C_NotPlain) = some true)
    (s_NotPlain_ValueError : PySem.W.subIn K (.ref C_NotPlain) (.type "ValueError") = some true)
    (d_NoDealings : PySem.W.hasDictIn K C_NoDealings = true)
    (s_NotPlain_NoDealings : PySem.W.subIn K (.ref C_NotPlain) (.ref C_NoDealings) = some false)
    (n_NotPlain_NoDealings : C_NotPlain ≠ C_NoDealings)
    (d_NoDeed : PySem.W.hasDictIn K C_NoDeed = true)
    (s_NotPlain_NoDeed : PySem.W.subIn K (.ref C_NotPlain) (.ref C_NoDeed) = some false)
    (n_NotPlain_NoDeed : C_NotPlain ≠ C_NoDeed)
    (d_NoHand : PySem.W.hasDictIn K C_NoHand = true)
    (s_NotPlain_NoHand : PySem.W.subIn K (.ref C_NotPlain) (.ref C_NoHand) = some false)
    (n_NotPlain_NoHand : C_NotPlain ≠ C_NoHand)
    (d_NoOrder : PySem.W.hasDictIn K C_NoOrder = true)
    (s_NotPlain_NoOrder : PySem.W.subIn K (.ref C_NotPlain) (.ref C_NoOrder) = some false)
    (n_NotPlain_NoOrder : C_NotPlain ≠ C_NoOrder)
    (d_NoPlan : PySem.W.hasDictIn K C_NoPlan = true)
    (s_NotPlain_NoPlan : PySem.W.subIn K (.ref C_NotPlain) (.ref C_NoPlan) = some false)
    (n_NotPlain_NoPlan : C_NotPlain ≠ C_NoPlan)
    (d_NoRow : PySem.W.hasDictIn K C_NoRow = true)
    (s_NotPlain_NoRow : PySem.W.subIn K (.ref C_NotPlain) (.ref C_NoRow) = some false)
    (n_NotPlain_NoRow : C_NotPlain ≠ C_NoRow)
    (d_NoStrictness : PySem.W.hasDictIn K C_NoStrictness = true)
    (s_NotPlain_NoStrictness : PySem.W.subIn K (.ref C_NotPlain) (.ref C_NoStrictness) = some false)
    (n_NotPlain_NoStrictness : C_NotPlain ≠ C_NoStrictness)
    (d_NoTale : PySem.W.hasDictIn K C_NoTale = true)
    (s_NotPlain_NoTale : PySem.W.subIn K (.ref C_NotPlain) (.ref C_NoTale) = some false)
    (n_NotPlain_NoTale : C_NotPlain ≠ C_NoTale)
    (d_NoThing : PySem.W.hasDictIn K C_NoThing = true)
    (s_NotPlain_NoThing : PySem.W.subIn K (.ref C_NotPlain) (.ref C_NoThing) = some false)
    (n_NotPlain_NoThing : C_NotPlain ≠ C_NoThing) :
    ∃ fd : FuncData, (∀ (s : Shared) (v : Value), BindsTo s fd ⟨[v], []⟩ [("script", v)]) ∧ ∀ base : Heap, K.In base → base.Ns mainGlobals mg → FnOk l.prog w K mg base (L2.CX l.prog w) 7 fa fd ["script"] (spLaw K) := by
  have e := hfa.symm.trans (PySem.W.mg_of X G a26)
  cases e
  have T : Txt K w mg := ⟨PySem.W.mg_none_of X G z_ValueError, PySem.W.mg_none_of X G z_enumerate, PySem.W.mg_none_of X G z_int, PySem.W.mg_none_of X G z_isinstance, PySem.W.mg_none_of X G z_len, PySem.W.mg_none_of X G z_list, PySem.W.mg_none_of X G z_max, PySem.W.mg_none_of X G z_range, PySem.W.mg_none_of X G z_sorted, PySem.W.mg_none_of X G z_str, PySem.W.mg_none_of X G z_tuple, ⟨_, PySem.W.mg_of X G g_FIRST_BEGIN, repK_int⟩, ⟨_, PySem.W.mg_of X G g_FIRST_END, repK_int⟩, ⟨_, PySem.W.mg_of X G g_NoDealings, x_NoDealings, y_NoDealings, w_NoDealings, v_NoDealings⟩, ⟨_, PySem.W.mg_of X G g_NoDeed, x_NoDeed, y_NoDeed, w_NoDeed, v_NoDeed⟩, ⟨_, PySem.W.mg_of X G g_NoHand, x_NoHand, y_NoHand, w_NoHand, v_NoHand⟩, ⟨_, PySem.W.mg_of X G g_NoOrder, x_NoOrder, y_NoOrder, w_NoOrder, v_NoOrder⟩, ⟨_, PySem.W.mg_of X G g_NoPlan, x_NoPlan, y_NoPlan, w_NoPlan, v_NoPlan⟩, ⟨_, PySem.W.mg_of X G g_NoRow, x_NoRow, y_NoRow, w_NoRow, v_NoRow⟩, ⟨_, PySem.W.mg_of X G g_NoStrictness, x_NoStrictness, y_NoStrictness, w_NoStrictness, v_NoStrictness⟩, ⟨_, PySem.W.mg_of X G g_NoTale, x_NoTale, y_NoTale, w_NoTale, v_NoTale⟩, ⟨_, PySem.W.mg_of X G g_NoThing, x_NoThing, y_NoThing, w_NoThing, v_NoThing⟩, ⟨_, PySem.W.mg_of X G g_NotPlain, x_NotPlain, y_NotPlain, w_NotPlain, v_NotPlain⟩, ⟨_, PySem.W.mg_of X G g_TaleError, x_TaleError, y_TaleError, w_TaleError, v_TaleError⟩, only2 (PySem.W.mg_of X G g_NotPlain) (PySem.W.mg_of X G g_TaleError) (PySem.W.exm_ref w_TaleError d_TaleError v_TaleError s_NotPlain_TaleError), only1 (PySem.W.mg_of X G g_NotPlain) ⟨x0_NotPlain, x1_NotPlain, x2_NotPlain, x3_NotPlain, x4_NotPlain, x5_NotPlain, x6_NotPlain, x7_NotPlain⟩, only2 (PySem.W.mg_of X G g_NotPlain) (PySem.W.mg_of X G g_NotPlain) (kit_refD d_NotPlain v_NotPlain s_NotPlain_NotPlain (fun _ => rfl)), only1 (PySem.W.mg_of X G g_NotPlain) (kit_tyD (by decide +kernel) s_NotPlain_ValueError), only2 (PySem.W.mg_of X G g_NotPlain) (PySem.W.mg_of X G g_NoDealings) (kit_refD d_NoDealings v_NoDealings s_NotPlain_NoDealings (fun z => absurd z n_NotPlain_NoDealings)), only2 (PySem.W.mg_of X G g_NotPlain) (PySem.W.mg_of X G g_NoDeed) (kit_refD d_NoDeed v_NoDeed s_NotPlain_NoDeed (fun z => absurd z n_NotPlain_NoDeed)), only2 (PySem.W.mg_of X G g_NotPlain) (PySem.W.mg_of X G g_NoHand) (kit_refD d_NoHand v_NoHand s_NotPlain_NoHand (fun z => absurd z n_NotPlain_NoHand)), only2 (PySem.W.mg_of X G g_NotPlain) (PySem.W.mg_of X G g_NoOrder) (kit_refD d_NoOrder v_NoOrder s_NotPlain_NoOrder (fun z => absurd z n_NotPlain_NoOrder)), only2 (PySem.W.mg_of X G g_NotPlain) (PySem.W.mg_of X G g_NoPlan) (kit_refD d_NoPlan v_NoPlan s_NotPlain_NoPlan (fun z => absurd z n_NotPlain_NoPlan)), only2 (PySem.W.mg_of X G g_NotPlain) (PySem.W.mg_of X G g_NoRow) (kit_refD d_NoRow v_NoRow s_NotPlain_NoRow (fun z => absurd z n_NotPlain_NoRow)), only2 (PySem.W.mg_of X G g_NotPlain) (PySem.W.mg_of X G g_NoStrictness) (kit_refD d_NoStrictness v_NoStrictness s_NotPlain_NoStrictness (fun z => absurd z n_NotPlain_NoStrictness)), only2 (PySem.W.mg_of X G g_NotPlain) (PySem.W.mg_of X G g_NoTale) (kit_refD d_NoTale v_NoTale s_NotPlain_NoTale (fun z => absurd z n_NotPlain_NoTale)), only2 (PySem.W.mg_of X G g_NotPlain) (PySem.W.mg_of X G g_NoThing) (kit_refD d_NoThing v_NoThing s_NotPlain_NoThing (fun z => absurd z n_NotPlain_NoThing))⟩
  have F0 := fun_mk (st := s_last_written) l0 c0 k0
  have G0 : FunAt K mg "last_written" s_last_written ["writes", "begin"] := ⟨_, _, F0, PySem.W.mg_of X G a0, F0.binds fun _ _ _ _ _ _ us hl => match us, hl with | [_, _], _ => rfl⟩
  have F1 := fun_mk (st := s_written_beside) l1 c1 k1
  have G1 : FunAt K mg "written_beside" s_written_beside ["writes", "begin", "end"] := ⟨_, _, F1, PySem.W.mg_of X G a1, F1.binds fun _ _ _ _ _ _ us hl => match us, hl with | [_, _, _], _ => rfl⟩
  have F2 := fun_mk (st := s_deeds) l2 c2 k2
  have G2 : FunAt K mg "deeds" s_deeds ["tale"] := ⟨_, _, F2, PySem.W.mg_of X G a2, F2.binds fun _ _ _ _ _ _ us hl => match us, hl with | [_], _ => rfl⟩
  have F3 := fun_mk (st := s_plain_deeds) l3 c3 k3
  have G3 : FunAt K mg "plain_deeds" s_plain_deeds ["tale"] := ⟨_, _, F3, PySem.W.mg_of X G a3, F3.binds fun _ _ _ _ _ _ us hl => match us, hl with | [_], _ => rfl⟩
  have F4 := fun_mk (st := s_written_by_one) l4 c4 k4
  have G4 : FunAt K mg "written_by_one" s_written_by_one ["tale"] := ⟨_, _, F4, PySem.W.mg_of X G a4, F4.binds fun _ _ _ _ _ _ us hl => match us, hl with | [_], _ => rfl⟩
  have F5 := fun_mk (st := s_is_regular) l5 c5 k5
  have G5 : FunAt K mg "is_regular" s_is_regular ["tale"] := ⟨_, _, F5, PySem.W.mg_of X G a5, F5.binds fun _ _ _ _ _ _ us hl => match us, hl with | [_], _ => rfl⟩
  have F6 := fun_mk (st := s_is_safe) l6 c6 k6
  have G6 : FunAt K mg "is_safe" s_is_safe ["tale"] := ⟨_, _, F6, PySem.W.mg_of X G a6, F6.binds fun _ _ _ _ _ _ us hl => match us, hl with | [_], _ => rfl⟩
  have F7 := fun_mk (st := s_turn_about) l7 c7 k7
  have G7 : FunAt K mg "turn_about" s_turn_about ["tale"] := ⟨_, _, F7, PySem.W.mg_of X G a7, F7.binds fun _ _ _ _ _ _ us hl => match us, hl with | [_], _ => rfl⟩
  have F8 := fun_mk (st := s_law_asked) l8 c8 k8
  have G8 : FunAt K mg "_law_asked" s_law_asked ["tale", "which"] := ⟨_, _, F8, PySem.W.mg_of X G a8, F8.binds fun _ _ _ _ _ _ us hl => match us, hl with | [_, _], _ => rfl⟩
  have F9 := fun_mk (st := s_law_cell_at) l9 c9 k9
  have G9 : FunAt K mg "_law_cell_at" s_law_cell_at ["script", "k"] := ⟨_, _, F9, PySem.W.mg_of X G a9, F9.binds fun _ _ _ _ _ _ us hl => match us, hl with | [_, _], _ => rfl⟩
  have F10 := fun_mk (st := s_law_refused) l10 c10 k10
  have G10 : FunAt K mg "_law_refused" s_law_refused ["tale", "which"] := ⟨_, _, F10, PySem.W.mg_of X G a10, F10.binds fun _ _ _ _ _ _ us hl => match us, hl with | [_, _], _ => rfl⟩
  have F11 := fun_mk (st := s_law_stream) l11 c11 k11
  have G11 : FunAt K mg "_law_stream" s_law_stream ["cell", "way"] := ⟨_, _, F11, PySem.W.mg_of X G a11, F11.binds fun _ _ _ _ _ _ us hl => match us, hl with | [_, _], _ => rfl⟩
  have F12 := fun_mk (st := s_law_take) l12 c12 k12
  have G12 : FunAt K mg "_law_take" s_law_take ["row", "many"] := ⟨_, _, F12, PySem.W.mg_of X G a12, F12.binds fun _ _ _ _ _ _ us hl => match us, hl with | [_, _], _ => rfl⟩
  have F13 := fun_mk (st := s_law_worth) l13 c13 k13
  have G13 : FunAt K mg "_law_worth" s_law_worth ["row"] := ⟨_, _, F13, PySem.W.mg_of X G a13, F13.binds fun _ _ _ _ _ _ us hl => match us, hl with | [_], _ => rfl⟩
  have F14 := fun_mk (st := s_law_answer) l14 c14 k14
  have G14 : FunAt K mg "_law_answer" s_law_answer ["row", "worths"] := ⟨_, _, F14, PySem.W.mg_of X G a14, F14.binds fun _ _ _ _ _ _ us hl => match us, hl with | [_, _], _ => rfl⟩
  have F15 := fun_mk (st := s_law_fresh) l15 c15 k15
  have G15 : FunAt K mg "_law_fresh" s_law_fresh ["row", "used"] := ⟨_, _, F15, PySem.W.mg_of X G a15, F15.binds fun _ _ _ _ _ _ us hl => match us, hl with | [_, _], _ => rfl⟩
  have F16 := fun_mk (st := s_law_events) l16 c16 k16
  have G16 : FunAt K mg "_law_events" s_law_events ["cells", "way", "head", "name"] := ⟨_, _, F16, PySem.W.mg_of X G a16, F16.binds fun _ _ _ _ _ _ us hl => match us, hl with | [_, _, _, _], _ => rfl⟩
  have F17 := fun_mk (st := s_law_name) l17 c17 k17
  have G17 : FunAt K mg "_law_name" s_law_name ["row"] := ⟨_, _, F17, PySem.W.mg_of X G a17, F17.binds fun _ _ _ _ _ _ us hl => match us, hl with | [_], _ => rfl⟩
  have F18 := fun_mk (st := s_law_tale) l18 c18 k18
  have G18 : FunAt K mg "_law_tale" s_law_tale ["script", "most"] := ⟨_, _, F18, PySem.W.mg_of X G a18, F18.binds fun _ _ _ _ _ _ us hl => match us, hl with | [_, _], _ => rfl⟩
  have F19 := fun_mk (st := s_law_end_of) l19 c19 k19
  have G19 : FunAt K mg "_law_end_of" s_law_end_of ["events", "at"] := ⟨_, _, F19, PySem.W.mg_of X G a19, F19.binds fun _ _ _ _ _ _ us hl => match us, hl with | [_, _], _ => rfl⟩
  have F20 := fun_mk (st := s_law_answered) l20 c20 k20
  have G20 : FunAt K mg "_law_answered" s_law_answered ["events", "at", "answer"] := ⟨_, _, F20, PySem.W.mg_of X G a20, F20.binds fun _ _ _ _ _ _ us hl => match us, hl with | [_, _, _], _ => rfl⟩
  have F21 := fun_mk (st := s_law_begins) l21 c21 k21
  have G21 : FunAt K mg "_law_begins" s_law_begins ["events", "verb"] := ⟨_, _, F21, PySem.W.mg_of X G a21, F21.binds fun _ _ _ _ _ _ us hl => match us, hl with | [_, _], _ => rfl⟩
  have F22 := fun_mk (st := s_law_closed) l22 c22 k22
  have G22 : FunAt K mg "_law_closed" s_law_closed ["events", "hand"] := ⟨_, _, F22, PySem.W.mg_of X G a22, F22.binds fun _ _ _ _ _ _ us hl => match us, hl with | [_, _], _ => rfl⟩
  have F23 := fun_mk (st := s_law_beside) l23 c23 k23
  have G23 : FunAt K mg "_law_beside" s_law_beside ["tale", "row"] := ⟨_, _, F23, PySem.W.mg_of X G a23, F23.binds fun _ _ _ _ _ _ us hl => match us, hl with | [_, _], _ => rfl⟩
  have F24 := fun_mk (st := s_law_more) l24 c24 k24
  have G24 : FunAt K mg "_law_more" s_law_more ["events", "name", "hand", "worth", "ended"] := ⟨_, _, F24, PySem.W.mg_of X G a24, F24.binds fun _ _ _ _ _ _ us hl => match us, hl with | [_, _, _, _, _], _ => rfl⟩
  have F25 := fun_mk (st := s_law_turned) l25 c25 k25
  have G25 : FunAt K mg "_law_turned" s_law_turned ["tale", "row"] := ⟨_, _, F25, PySem.W.mg_of X G a25, F25.binds fun _ _ _ _ _ _ us hl => match us, hl with | [_, _], _ => rfl⟩
  have F26 := fun_mk (st := s_law) l26 c26 k26
  have G26 : FunAt K mg "law" s_law ["script"] := ⟨_, _, F26, PySem.W.mg_of X G a26, F26.binds fun _ _ _ _ _ _ us hl => match us, hl with | [_], _ => rfl⟩
  have kk_last_written : ∀ base, Cal l.prog w K mg base "last_written" 1 2 m_last_written := fun base => ok_last_written T G0 
  have kk_written_beside : ∀ base, Cal l.prog w K mg base "written_beside" 1 3 m_written_beside := fun base => ok_written_beside T G1 
  have kk_deeds : ∀ base, Cal l.prog w K mg base "deeds" 1 1 m_deeds := fun base => ok_deeds T G2 
  have kk_plain_deeds : ∀ base, Cal l.prog w K mg base "plain_deeds" 2 1 m_plain_deeds := fun base => ok_plain_deeds T G3 (kk_deeds base)
  have kk_written_by_one : ∀ base, Cal l.prog w K mg base "written_by_one" 3 1 m_written_by_one := fun base => ok_written_by_one T G4 (kk_deeds base) (kk_plain_deeds base)
  have kk_is_regular : ∀ base, Cal l.prog w K mg base "is_regular" 4 1 m_is_regular := fun base => ok_is_regular T G5 (kk_last_written base) (kk_written_beside base) (kk_written_by_one base)
  have kk_is_safe : ∀ base, Cal l.prog w K mg base "is_safe" 4 1 m_is_safe := fun base => ok_is_safe T G6 (kk_last_written base) (kk_written_beside base) (kk_written_by_one base)
  have kk_turn_about : ∀ base, Cal l.prog w K mg base "turn_about" 4 1 m_turn_about := fun base => ok_turn_about T G7 (kk_written_by_one base)
  have kk_law_asked : ∀ base, Cal l.prog w K mg base "_law_asked" 5 2 m_law_asked := fun base => ok_law_asked T G8 (kk_is_regular base) (kk_is_safe base) (kk_turn_about base)
  have kk_law_cell_at : ∀ base, Cal l.prog w K mg base "_law_cell_at" 1 2 m_law_cell_at := fun base => ok_law_cell_at T G9 
  have kk_law_refused : ∀ base, Cal l.prog w K mg base "_law_refused" 6 2 m_law_refused := fun base => ok_law_refused T G10 (kk_law_asked base)
  have kk_law_stream : ∀ base, Cal l.prog w K mg base "_law_stream" 1 2 m_law_stream := fun base => ok_law_stream T G11 
  have kk_law_take : ∀ base, Cal l.prog w K mg base "_law_take" 1 2 m_law_take := fun base => ok_law_take T G12 
  have kk_law_worth : ∀ base, Cal l.prog w K mg base "_law_worth" 2 1 m_law_worth := fun base => ok_law_worth T G13 (kk_law_take base)
  have kk_law_answer : ∀ base, Cal l.prog w K mg base "_law_answer" 3 2 m_law_answer := fun base => ok_law_answer T G14 (kk_law_take base) (kk_law_worth base)
  have kk_law_fresh : ∀ base, Cal l.prog w K mg base "_law_fresh" 3 2 m_law_fresh := fun base => ok_law_fresh T G15 (kk_law_worth base)
  have kk_law_events : ∀ base, Cal l.prog w K mg base "_law_events" 4 4 m_law_events := fun base => ok_law_events T G16 (kk_law_answer base) (kk_law_fresh base) (kk_law_stream base) (kk_law_take base)
  have kk_law_name : ∀ base, Cal l.prog w K mg base "_law_name" 2 1 m_law_name := fun base => ok_law_name T G17 (kk_law_take base)
  have kk_law_tale : ∀ base, Cal l.prog w K mg base "_law_tale" 5 2 m_law_tale := fun base => ok_law_tale T G18 (kk_law_cell_at base) (kk_law_events base) (kk_law_name base) (kk_law_stream base)
  have kk_law_end_of : ∀ base, Cal l.prog w K mg base "_law_end_of" 1 2 m_law_end_of := fun base => ok_law_end_of T G19 
  have kk_law_answered : ∀ base, Cal l.prog w K mg base "_law_answered" 2 3 m_law_answered := fun base => ok_law_answered T G20 (kk_law_end_of base)
  have kk_law_begins : ∀ base, Cal l.prog w K mg base "_law_begins" 1 2 m_law_begins := fun base => ok_law_begins T G21 
  have kk_law_closed : ∀ base, Cal l.prog w K mg base "_law_closed" 1 2 m_law_closed := fun base => ok_law_closed T G22 
  have kk_law_beside : ∀ base, Cal l.prog w K mg base "_law_beside" 2 2 m_law_beside := fun base => ok_law_beside T G23 (kk_law_closed base) (kk_law_take base)
  have kk_law_more : ∀ base, Cal l.prog w K mg base "_law_more" 2 5 m_law_more := fun base => ok_law_more T G24 (kk_law_closed base)
  have kk_law_turned : ∀ base, Cal l.prog w K mg base "_law_turned" 3 2 m_law_turned := fun base => ok_law_turned T G25 (kk_law_answered base) (kk_law_begins base) (kk_law_beside base) (kk_law_more base) (kk_law_take base)
  exact ⟨PySem.W.fnOf "law" "law" (defArgs s_law) (defBody s_law) (defScope s_law) .none kV26 dc26 pm26 an26 cd26 ct26, fun s v => .of_eq rfl, fun base _ _ =>
    law_ok (m := m_law) (fn_law T F26 (kk_law_asked base) (kk_law_cell_at base) (kk_law_refused base) (kk_law_stream base) (kk_law_tale base) (kk_law_turned base)) law_true⟩
theorem walk {l : PySem.W.OpenLaw} {q : Program} {loose : List Str} {XP : (Str → Option Value) → Heap → Prop} {YP : World → Heap → Prop} {d : DefRec} {K : Params → Fg} (hn : l.most = some 63) (hdf : d.params.defaults = [])
    (hY : ∀ (w : World) (h : Heap), YP w h → (K w.params).In h)
    (F : ∀ (w : World) (mg : Str → Option Value) (fa : Addr) (h : Heap), (K w.params).In h → h.Ns mainGlobals mg → mg d.name = some (.ref fa) →
      ∃ fd : FuncData, (∀ (s : Shared) (u : Value), BindsTo s fd ⟨[u], []⟩ [("script", u)]) ∧ ∀ base : Heap, (K w.params).In base → base.Ns mainGlobals mg → FnOk l.prog w (K w.params) mg base (L2.CX l.prog w) 7 fa fd ["script"] (spLaw (K w.params))) :
    PySem.W.WalkO q loose XP YP l.row.toRowW d [] (fun f vs => PySem.call f vs) :=
  L2.walk_of (n := 63) (k := 7) (x := "script") (CX := fun w => L2.CX l.prog w) (sp := fun w => spLaw (K w.params)) hn (by decide) hdf ⟨rfl, by decide, by decide⟩ hY F (fun _ _ a ns hl hO hS => ⟨a, ns, rfl, hS, hl, hO, fun _ => rfl⟩)
    fun _ _ _ _ _ z => by obtain ⟨_, _, _, _, _, _, _, _, _, _, _, _, z⟩ := z; exact z

end LK
open PySem PySem.W PyProof.Rows in
set_option maxRecDepth 100000 in
set_option maxHeartbeats 0 in
theorem PySem.Challenge.cw_talejudge_k22_not_plain_holds : PySem.Challenge.rw_talejudge_k22_not_plain.Holds := by
  w_on; o_law; k_head; (case hw => w_witness2)
  k_fill
  refine LK.walk (l := PySem.Challenge.rw_talejudge_k22_not_plain) rfl rfl (fun w h Y => PySem.W.kIn_of Y) ?F
  case F =>
    intro w mg fa h KX G hmg
    refine' LK.all_mk KX G hmg ?a0 ?l0 ?c0 ?k0 ?a1 ?l1 ?c1 ?k1 ?a2 ?l2 ?c2 ?k2 ?a3 ?l3 ?c3 ?k3 ?a4 ?l4 ?c4 ?k4 ?a5 ?l5 ?c5 ?k5 ?a6 ?l6 ?c6 ?k6 ?a7 ?l7 ?c7 ?k7 ?a8 ?l8 ?c8 ?k8 ?a9 ?l9 ?c9 ?k9 ?a10 ?l10 ?c10 ?k10 ?a11 ?l11 ?c11 ?k11 ?a12 ?l12 ?c12 ?k12 ?a13 ?l13 ?c13 ?k13 ?a14 ?l14 ?c14 ?k14 ?a15 ?l15 ?c15 ?k15 ?a16 ?l16 ?c16 ?k16 ?a17 ?l17 ?c17 ?k17 ?a18 ?l18 ?c18 ?k18 ?a19 ?l19 ?c19 ?k19 ?a20 ?l20 ?c20 ?k20 ?a21 ?l21 ?c21 ?k21 ?a22 ?l22 ?c22 ?k22 ?a23 ?l23 ?c23 ?k23 ?a24 ?l24 ?c24 ?k24 ?a25 ?l25 ?c25 ?k25 ?a26 ?l26 ?c26 ?k26 ?z_ValueError ?z_enumerate ?z_int ?z_isinstance ?z_len ?z_list ?z_max ?z_range ?z_sorted ?z_str ?z_tuple ?g_FIRST_BEGIN ?g_FIRST_END ?g_NoDealings ?x_NoDealings ?y_NoDealings ?w_NoDealings ?v_NoDealings ?g_NoDeed ?x_NoDeed ?y_NoDeed ?w_NoDeed ?v_NoDeed ?g_NoHand ?x_NoHand ?y_NoHand ?w_NoHand ?v_NoHand ?g_NoOrder ?x_NoOrder ?y_NoOrder ?w_NoOrder ?v_NoOrder ?g_NoPlan ?x_NoPlan ?y_NoPlan ?w_NoPlan ?v_NoPlan ?g_NoRow ?x_NoRow ?y_NoRow ?w_NoRow ?v_NoRow ?g_NoStrictness ?x_NoStrictness ?y_NoStrictness ?w_NoStrictness ?v_NoStrictness ?g_NoTale ?x_NoTale ?y_NoTale ?w_NoTale ?v_NoTale ?g_NoThing ?x_NoThing ?y_NoThing ?w_NoThing ?v_NoThing ?g_NotPlain ?x_NotPlain ?y_NotPlain ?w_NotPlain ?v_NotPlain ?g_TaleError ?x_TaleError ?y_TaleError ?w_TaleError ?v_TaleError ?d_TaleError ?s_NotPlain_TaleError ?x0_NotPlain ?x1_NotPlain ?x2_NotPlain ?x3_NotPlain ?x4_NotPlain ?x5_NotPlain ?x6_NotPlain ?x7_NotPlain ?d_NotPlain ?s_NotPlain_NotPlain ?s_NotPlain_ValueError ?d_NoDealings ?s_NotPlain_NoDealings ?n_NotPlain_NoDealings ?d_NoDeed ?s_NotPlain_NoDeed ?n_NotPlain_NoDeed ?d_NoHand ?s_NotPlain_NoHand ?n_NotPlain_NoHand ?d_NoOrder ?s_NotPlain_NoOrder ?n_NotPlain_NoOrder ?d_NoPlan ?s_NotPlain_NoPlan ?n_NotPlain_NoPlan ?d_NoRow ?s_NotPlain_NoRow ?n_NotPlain_NoRow ?d_NoStrictness ?s_NotPlain_NoStrictness ?n_NotPlain_NoStrictness ?d_NoTale ?s_NotPlain_NoTale ?n_NotPlain_NoTale ?d_NoThing ?s_NotPlain_NoThing ?n_NotPlain_NoThing
    (case a0 => k_is)
    (case l0 => k_is)
    (case c0 => k_is)
    (case k0 => k_is)
    (case a1 => k_is)
    (case l1 => k_is)
    (case c1 => k_is)
    (case k1 => k_is)
    (case a2 => k_is)
    (case l2 => k_is)
    (case c2 => k_is)
    (case k2 => k_is)
    (case a3 => k_is)
    (case l3 => k_is)
    (case c3 => k_is)
    (case k3 => k_is)
    (case a4 => k_is)
    (case l4 => k_is)
    (case c4 => k_is)
    (case k4 => k_is)
    (case a5 => k_is)
    (case l5 => k_is)
    (case c5 => k_is)
    (case k5 => k_is)
    (case a6 => k_is)
    (case l6 => k_is)
    (case c6 => k_is)
    (case k6 => k_is)
    (case a7 => k_is)
    (case l7 => k_is)
    (case c7 => k_is)
    (case k7 => k_is)
    (case a8 => k_is)
    (case l8 => k_is)
    (case c8 => k_is)
    (case k8 => k_is)
    (case a9 => k_is)
    (case l9 => k_is)
    (case c9 => k_is)
    (case k9 => k_is)
    (case a10 => k_is)
    (case l10 => k_is)
    (case c10 => k_is)
    (case k10 => k_is)
    (case a11 => k_is)
    (case l11 => k_is)
    (case c11 => k_is)
    (case k11 => k_is)
    (case a12 => k_is)
    (case l12 => k_is)
    (case c12 => k_is)
    (case k12 => k_is)
    (case a13 => k_is)
    (case l13 => k_is)
    (case c13 => k_is)
    (case k13 => k_is)
    (case a14 => k_is)
    (case l14 => k_is)
    (case c14 => k_is)
    (case k14 => k_is)
    (case a15 => k_is)
    (case l15 => k_is)
    (case c15 => k_is)
    (case k15 => k_is)
    (case a16 => k_is)
    (case l16 => k_is)
    (case c16 => k_is)
    (case k16 => k_is)
    (case a17 => k_is)
    (case l17 => k_is)
    (case c17 => k_is)
    (case k17 => k_is)
    (case a18 => k_is)
    (case l18 => k_is)
    (case c18 => k_is)
    (case k18 => k_is)
    (case a19 => k_is)
    (case l19 => k_is)
    (case c19 => k_is)
    (case k19 => k_is)
    (case a20 => k_is)
    (case l20 => k_is)
    (case c20 => k_is)
    (case k20 => k_is)
    (case a21 => k_is)
    (case l21 => k_is)
    (case c21 => k_is)
    (case k21 => k_is)
    (case a22 => k_is)
    (case l22 => k_is)
    (case c22 => k_is)
    (case k22 => k_is)
    (case a23 => k_is)
    (case l23 => k_is)
    (case c23 => k_is)
    (case k23 => k_is)
    (case a24 => k_is)
    (case l24 => k_is)
    (case c24 => k_is)
    (case k24 => k_is)
    (case a25 => k_is)
    (case l25 => k_is)
    (case c25 => k_is)
    (case k25 => k_is)
    (case a26 => k_is)
    (case l26 => k_is)
    (case c26 => k_is)
    (case k26 => k_is)
    (case z_ValueError => k_is)
    (case z_enumerate => k_is)
    (case z_int => k_is)
    (case z_isinstance => k_is)
    (case z_len => k_is)
    (case z_list => k_is)
    (case z_max => k_is)
    (case z_range => k_is)
    (case z_sorted => k_is)
    (case z_str => k_is)
    (case z_tuple => k_is)
    (case g_FIRST_BEGIN => k_is)
    (case g_FIRST_END => k_is)
    (case g_NoDealings => k_is)
    (case x_NoDealings => k_exc)
    (case y_NoDealings => k_is)
    (case w_NoDealings => k_is)
    (case v_NoDealings => k_is)
    (case g_NoDeed => k_is)
    (case x_NoDeed => k_exc)
    (case y_NoDeed => k_is)
    (case w_NoDeed => k_is)
    (case v_NoDeed => k_is)
    (case g_NoHand => k_is)
    (case x_NoHand => k_exc)
    (case y_NoHand => k_is)
    (case w_NoHand => k_is)
    (case v_NoHand => k_is)
    (case g_NoOrder => k_is)
    (case x_NoOrder => k_exc)
    (case y_NoOrder => k_is)
    (case w_NoOrder => k_is)
    (case v_NoOrder => k_is)
    (case g_NoPlan => k_is)
    (case x_NoPlan => k_exc)
    (case y_NoPlan => k_is)
    (case w_NoPlan => k_is)
    (case v_NoPlan => k_is)
    (case g_NoRow => k_is)
    (case x_NoRow => k_exc)
    (case y_NoRow => k_is)
    (case w_NoRow => k_is)
    (case v_NoRow => k_is)
    (case g_NoStrictness => k_is)
    (case x_NoStrictness => k_exc)
    (case y_NoStrictness => k_is)
    (case w_NoStrictness => k_is)
    (case v_NoStrictness => k_is)
    (case g_NoTale => k_is)
    (case x_NoTale => k_exc)
    (case y_NoTale => k_is)
    (case w_NoTale => k_is)
    (case v_NoTale => k_is)
    (case g_NoThing => k_is)
    (case x_NoThing => k_exc)
    (case y_NoThing => k_is)
    (case w_NoThing => k_is)
    (case v_NoThing => k_is)
    (case g_NotPlain => k_is)
    (case x_NotPlain => k_exc)
    (case y_NotPlain => k_is)
    (case w_NotPlain => k_is)
    (case v_NotPlain => k_is)
    (case g_TaleError => k_is)
    (case x_TaleError => k_exc)
    (case y_TaleError => k_is)
    (case w_TaleError => k_is)
    (case v_TaleError => k_is)
    (case d_TaleError => k_is)
    (case s_NotPlain_TaleError => k_is)
    (case x0_NotPlain => k_is)
    (case x1_NotPlain => k_is)
    (case x2_NotPlain => k_is)
    (case x3_NotPlain => k_is)
    (case x4_NotPlain => k_is)
    (case x5_NotPlain => k_is)
    (case x6_NotPlain => k_is)
    (case x7_NotPlain => k_is)
    (case d_NotPlain => k_is)
    (case s_NotPlain_NotPlain => k_is)
    (case s_NotPlain_ValueError => k_is)
    (case d_NoDealings => k_is)
    (case s_NotPlain_NoDealings => k_is)
    (case n_NotPlain_NoDealings => decide +kernel)
    (case d_NoDeed => k_is)
    (case s_NotPlain_NoDeed => k_is)
    (case n_NotPlain_NoDeed => decide +kernel)
    (case d_NoHand => k_is)
    (case s_NotPlain_NoHand => k_is)
    (case n_NotPlain_NoHand => decide +kernel)
    (case d_NoOrder => k_is)
    (case s_NotPlain_NoOrder => k_is)
    (case n_NotPlain_NoOrder => decide +kernel)
    (case d_NoPlan => k_is)
    (case s_NotPlain_NoPlan => k_is)
    (case n_NotPlain_NoPlan => decide +kernel)
    (case d_NoRow => k_is)
    (case s_NotPlain_NoRow => k_is)
    (case n_NotPlain_NoRow => decide +kernel)
    (case d_NoStrictness => k_is)
    (case s_NotPlain_NoStrictness => k_is)
    (case n_NotPlain_NoStrictness => decide +kernel)
    (case d_NoTale => k_is)
    (case s_NotPlain_NoTale => k_is)
    (case n_NotPlain_NoTale => decide +kernel)
    (case d_NoThing => k_is)
    (case s_NotPlain_NoThing => k_is)
    (case n_NotPlain_NoThing => decide +kernel)

